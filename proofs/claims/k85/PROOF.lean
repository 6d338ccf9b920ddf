import PyProof.Rows.All
import Wide.All
import OpenK.AllK
import Wide.FinOn
import HandS.ForMost
import HandS.ForExc
import HandS.IsInst
import HandS.Style
import HandS.Wide
import HandS.Walk
import HandS.ExcInit
import HandS.ExcField
import HandS.ExcIs
import HandS.StrMore
import HandS.Codes
import HandS.Dict
import HandS.Conv
import HandS.More
import HandS.Comp
import HandS.Deep
import HandS.Text
import PyProof.ListStr
import PyProof.Rows.StrRev
import PyProof.TupleOfStr
import PyProof.StrBlock2
import PyProof.Draws
import PyProof.EnumMake
import KE.KIsAll
import KE.KTryMore
import HandS.ExcValue
import HandS.ExcOwn
import HandS.TryOnly
import HandS.SortKw
import KE.DataMinMax
import HandS.NoneIn
import PyProof.CollectStr
import PyProof.Rows.SortStr
import KE.SortData
import PyProof.Rows.SetFrom
import PyProof.SetRoads
import KE.KDictSum
import PyProof.ReprReads
import PyProof.ReprRoads
import PyProof.StrLawsRepr
import PyProof.CallFns
import HandS.Flow
import KE.KItemsList
import HandS.RaiseMore
import HandS.DictComp
import KE.KDictZip
import PySem.Challenge.RW_joinranks_k85_rows_of_numbers
set_option linter.all false
namespace JP
/-- plain data; a text is the list of its codes; dct t kvs: a dict (t: its keys are tuples); ob k ps: an object of kind k that never changes, by its fields; scr: the script; er: an error that was caught; memo p q: a dict that keeps answers about p and q; loc n: the cell n of the store -/
inductive PV where
  | non | bl (b : Bool) | int (i : Int) | str (s : List Nat)
  | lst (xs : List PV) | tup (xs : List PV) | dct (t : Bool) (kvs : List (PV × PV)) | ob (k : Nat) (ps : List PV) | scr (xs : List PV)
  | er (c : String) (fs : List (String × PV)) | memo (p q : PV) | loc (n : Nat)
/-- a cell of the store: a list, a dict, an object that changes, a dict while it is walked -/
inductive Cl where
  | l (xs : List PV) | d (t : Bool) (kvs : List (PV × PV)) | o (kd : Nat) (fs : List (String × PV)) | w (t : Bool) (kvs : List (PV × PV))
/-- an exception: its class's name, its fields -/
structure PX where
  cls : String
  fs : List (String × PV)
inductive R (α : Type) where
  | ok (a : α) | ex (e : PX) | bad
def R.bind {α β : Type} : R α → (α → R β) → R β
  | .ok a, f => f a
  | .ex e, _ => .ex e
  | .bad, _ => .bad
def ofO {α : Type} : Option α → R α
  | some a => .ok a
  | none => .bad
@[simp] theorem R.bind_ok {α β : Type} (a : α) (f : α → R β) : (R.ok a).bind f = f a := rfl
@[simp] theorem R.bind_ex {α β : Type} (e : PX) (f : α → R β) : (R.ex e).bind f = .ex e := rfl
@[simp] theorem R.bind_bad {α β : Type} (f : α → R β) : (R.bad).bind f = .bad := rfl
@[simp] theorem ofO_some {α : Type} (a : α) : ofO (some a) = .ok a := rfl
@[simp] theorem ofO_none {α : Type} : ofO (none : Option α) = .bad := rfl
/-- a field of an object in the making: a value, a dict of its own -/
inductive FV where
  | v (p : PV) | d (t : Bool) (kvs : List (PV × PV))
/-- a slot of a frame: nothing known, a value, a borrowed value, a list of one's own, a caught error; d: a dict of one's own; n: an object in the making; k, kd: a list, a dict of one's own that is being walked; h: a value, beside it the store -/
inductive Sl where
  | u | v (p : PV) | b (p : PV) | o (xs : List PV) | x (e : PX) | d (t : Bool) (kvs : List (PV × PV)) | n (k : Nat) (fs : List (String × FV)) | k (xs : List PV) | kd (t : Bool) (kvs : List (PV × PV)) | h (p : PV) (S : List Cl)
abbrev Ev := List Sl
abbrev EX := Ev → R PV
abbrev AX := Ev → R (List PV)
inductive Ou where
  | nx (e : Ev) | rt (p : PV) | rf (xs : List PV) | bk (e : Ev) | ct (e : Ev) | ex (x : PX) (e : Ev) | bad | rs (p : PV) (S : List Cl) | rg (xs : List PV) (S : List Cl)
abbrev SX := Ev → Ou

def eVar (i : Nat) : EX := fun env => match env[i]? with | some (.v p) => .ok p | some (.h p _) => .ok p | _ => .bad
@[simp] theorem eVar_app (i : Nat) (env : Ev) : eVar i env = (match env[i]? with | some (.v p) => .ok p | some (.h p _) => .ok p | _ => .bad) := rfl
def eBor (i : Nat) : EX := fun env => match env[i]? with | some (.v p) => .ok p | some (.h p _) => .ok p | some (.b p) => .ok p | some (.o xs) => .ok (.lst xs) | some (.d t kvs) => .ok (.dct t kvs) | some (.k xs) => .ok (.lst xs) | some (.kd t kvs) => .ok (.dct t kvs) | _ => .bad
@[simp] theorem eBor_app (i : Nat) (env : Ev) : eBor i env = (match env[i]? with | some (.v p) => .ok p | some (.h p _) => .ok p | some (.b p) => .ok p | some (.o xs) => .ok (.lst xs) | some (.d t kvs) => .ok (.dct t kvs) | some (.k xs) => .ok (.lst xs) | some (.kd t kvs) => .ok (.dct t kvs) | _ => .bad) := rfl
def eQ (i : Nat) : EX := fun env => match env[i]? with | some (.v p) => .ok p | some (.h p _) => .ok p | some (.b p) => .ok p | some (.k xs) => .ok (.lst xs) | _ => .bad
@[simp] theorem eQ_app (i : Nat) (env : Ev) : eQ i env = (match env[i]? with | some (.v p) => .ok p | some (.h p _) => .ok p | some (.b p) => .ok p | some (.k xs) => .ok (.lst xs) | _ => .bad) := rfl
def eC (p : PV) : EX := fun _ => .ok p
@[simp] theorem eC_app  (p : PV) (env : Ev) : eC p env = (.ok p) := rfl
def eOp (h : PV → PV → Option PV) (f g : EX) : EX := fun env => (f env).bind fun x => (g env).bind fun y => ofO (h x y)
@[simp] theorem eOp_app (h : PV → PV → Option PV) (f g : EX) (env : Ev) : eOp h f g env = ((f env).bind fun x => (g env).bind fun y => ofO (h x y)) := rfl
def eUn (h : PV → Option PV) (f : EX) : EX := fun env => (f env).bind fun x => ofO (h x)
@[simp] theorem eUn_app (h : PV → Option PV) (f : EX) (env : Ev) : eUn h f env = ((f env).bind fun x => ofO (h x)) := rfl
def aNil : AX := fun _ => .ok []
@[simp] theorem aNil_app  (env : Ev) : aNil  env = (.ok []) := rfl
def aCons (f : EX) (g : AX) : AX := fun env => (f env).bind fun x => (g env).bind fun xs => .ok (x :: xs)
@[simp] theorem aCons_app (f : EX) (g : AX) (env : Ev) : aCons f g env = ((f env).bind fun x => (g env).bind fun xs => .ok (x :: xs)) := rfl
def eCall (m : List PV → R PV) (a : AX) : EX := fun env => (a env).bind m
@[simp] theorem eCall_app (m : List PV → R PV) (a : AX) (env : Ev) : eCall m a env = ((a env).bind m) := rfl
def lCall (m : List PV → R (List PV)) (a : AX) : AX := fun env => (a env).bind m
@[simp] theorem lCall_app (m : List PV → R (List PV)) (a : AX) (env : Ev) : lCall m a env = ((a env).bind m) := rfl
def eTup (a : AX) : EX := fun env => (a env).bind fun xs => .ok (.tup xs)
@[simp] theorem eTup_app (a : AX) (env : Ev) : eTup a env = ((a env).bind fun xs => .ok (.tup xs)) := rfl
def eLst (a : AX) : EX := fun env => (a env).bind fun xs => .ok (.lst xs)
@[simp] theorem eLst_app (a : AX) (env : Ev) : eLst a env = ((a env).bind fun xs => .ok (.lst xs)) := rfl
def andK (x : PV) (r : R PV) : R PV := match x with | .bl true => r | .bl false => .ok (.bl false) | _ => .bad
@[simp] theorem andK_t (r : R PV) : andK (.bl true) r = r := rfl
@[simp] theorem andK_f (r : R PV) : andK (.bl false) r = .ok (.bl false) := rfl
@[simp] theorem andK_b (c d : Bool) : andK (.bl c) (.ok (.bl d)) = .ok (.bl (c && d)) := by cases c <;> rfl
def eAnd (f g : EX) : EX := fun env => (f env).bind fun x => andK x (g env)
@[simp] theorem eAnd_app (f g : EX) (env : Ev) : eAnd f g env = ((f env).bind fun x => andK x (g env)) := rfl
def orK (x : PV) (r : R PV) : R PV := match x with | .bl true => .ok (.bl true) | .bl false => r | _ => .bad
@[simp] theorem orK_t (r : R PV) : orK (.bl true) r = .ok (.bl true) := rfl
@[simp] theorem orK_f (r : R PV) : orK (.bl false) r = r := rfl
@[simp] theorem orK_b (c d : Bool) : orK (.bl c) (.ok (.bl d)) = .ok (.bl (c || d)) := by cases c <;> rfl
def eOr (f g : EX) : EX := fun env => (f env).bind fun x => orK x (g env)
@[simp] theorem eOr_app (f g : EX) (env : Ev) : eOr f g env = ((f env).bind fun x => orK x (g env)) := rfl
def notK (x : PV) : R PV := match x with | .bl c => .ok (.bl (!c)) | _ => .bad
@[simp] theorem notK_b (c : Bool) : notK (.bl c) = .ok (.bl (!c)) := rfl
def eNot (f : EX) : EX := fun env => (f env).bind notK
@[simp] theorem eNot_app (f : EX) (env : Ev) : eNot f env = ((f env).bind notK) := rfl
/-- a op b op' c -/
def eChain (h h' : PV → PV → Option PV) (f g k : EX) : EX := fun env => (f env).bind fun x => (g env).bind fun y => (ofO (h x y)).bind fun z => match z with | .bl true => (k env).bind fun w => ofO (h' y w) | .bl false => .ok (.bl false) | _ => .bad
@[simp] theorem eChain_app (h h' : PV → PV → Option PV) (f g k : EX) (env : Ev) : eChain h h' f g k env = ((f env).bind fun x => (g env).bind fun y => (ofO (h x y)).bind fun z => match z with | .bl true => (k env).bind fun w => ofO (h' y w) | .bl false => .ok (.bl false) | _ => .bad) := rfl

def thenO {α : Type} (r : R α) (env : Ev) (n : α → Ou) : Ou := match r with | .ok a => n a | .ex x => .ex x env | .bad => .bad
@[simp] theorem thenO_ok {α : Type} (a : α) (env : Ev) (n : α → Ou) : thenO (.ok a) env n = n a := rfl
@[simp] theorem thenO_ex {α : Type} (x : PX) (env : Ev) (n : α → Ou) : thenO (.ex x) env n = .ex x env := rfl
@[simp] theorem thenO_bad {α : Type} (env : Ev) (n : α → Ou) : thenO (.bad) env n = .bad := rfl
def seqO (o : Ou) (t : SX) : Ou := match o with | .nx e => t e | o => o
@[simp] theorem seqO_nx (e : Ev) (t : SX) : seqO (.nx e) t = t e := rfl
@[simp] theorem seqO_rt (p : PV) (t : SX) : seqO (.rt p) t = .rt p := rfl
@[simp] theorem seqO_rf (p : List PV) (t : SX) : seqO (.rf p) t = .rf p := rfl
@[simp] theorem seqO_rs (p : PV) (S : List Cl) (t : SX) : seqO (.rs p S) t = .rs p S := rfl
@[simp] theorem seqO_rg (p : List PV) (S : List Cl) (t : SX) : seqO (.rg p S) t = .rg p S := rfl
@[simp] theorem seqO_ex (x : PX) (e : Ev) (t : SX) : seqO (.ex x e) t = .ex x e := rfl
@[simp] theorem seqO_bk (e : Ev) (t : SX) : seqO (.bk e) t = .bk e := rfl
@[simp] theorem seqO_ct (e : Ev) (t : SX) : seqO (.ct e) t = .ct e := rfl
@[simp] theorem seqO_bad (t : SX) : seqO (.bad) t = .bad := rfl
def sSeq (s t : SX) : SX := fun env => seqO (s env) t
@[simp] theorem sSeq_app (s t : SX) (env : Ev) : sSeq s t env = (seqO (s env) t) := rfl
def sNil : SX := fun env => .nx env
@[simp] theorem sNil_app  (env : Ev) : sNil  env = (.nx env) := rfl
def sAsg (i : Nat) (f : EX) : SX := fun env => thenO (f env) env fun p => .nx (env.set i (.v p))
@[simp] theorem sAsg_app (i : Nat) (f : EX) (env : Ev) : sAsg i f env = (thenO (f env) env fun p => .nx (env.set i (.v p))) := rfl
def sOwn (i : Nat) (f : AX) : SX := fun env => thenO (f env) env fun xs => .nx (env.set i (.o xs))
@[simp] theorem sOwn_app (i : Nat) (f : AX) (env : Ev) : sOwn i f env = (thenO (f env) env fun xs => .nx (env.set i (.o xs))) := rfl
def sRet (f : EX) : SX := fun env => thenO (f env) env fun p => .rt p
@[simp] theorem sRet_app (f : EX) (env : Ev) : sRet f env = (thenO (f env) env fun p => .rt p) := rfl
def sRetF (f : AX) : SX := fun env => thenO (f env) env fun p => .rf p
@[simp] theorem sRetF_app (f : AX) (env : Ev) : sRetF f env = (thenO (f env) env fun p => .rf p) := rfl
def sRetO (i : Nat) : SX := fun env => match env[i]? with | some (.o xs) => .rf xs | _ => .bad
@[simp] theorem sRetO_app (i : Nat) (env : Ev) : sRetO i env = (match env[i]? with | some (.o xs) => .rf xs | _ => .bad) := rfl
def sExp (f : EX) : SX := fun env => thenO (f env) env fun _ => .nx env
@[simp] theorem sExp_app (f : EX) (env : Ev) : sExp f env = (thenO (f env) env fun _ => .nx env) := rfl
def ifS (p : PV) (s t : SX) (env : Ev) : Ou := match p with | .bl true => s env | .bl false => t env | _ => .bad
@[simp] theorem ifS_t (s t : SX) (env : Ev) : ifS (.bl true) s t env = s env := rfl
@[simp] theorem ifS_f (s t : SX) (env : Ev) : ifS (.bl false) s t env = t env := rfl
def sIf (f : EX) (s t : SX) : SX := fun env => thenO (f env) env fun p => ifS p s t env
@[simp] theorem sIf_app (f : EX) (s t : SX) (env : Ev) : sIf f s t env = (thenO (f env) env fun p => ifS p s t env) := rfl
def sBrk : SX := fun env => .bk env
@[simp] theorem sBrk_app  (env : Ev) : sBrk  env = (.bk env) := rfl
def sCnt : SX := fun env => .ct env
@[simp] theorem sCnt_app  (env : Ev) : sCnt  env = (.ct env) := rfl
def sRaise (c : String) (fs : List String) (a : AX) : SX := fun env => thenO (a env) env fun ps => .ex ⟨c, fs.zip ps⟩ env
@[simp] theorem sRaise_app (c : String) (fs : List String) (a : AX) (env : Ev) : sRaise c fs a env = (thenO (a env) env fun ps => .ex ⟨c, fs.zip ps⟩ env) := rfl
/-- what is one's own becomes a value -/
@[simp] def frz (i : Nat) (env : Ev) : Ev := match env[i]? with | some (.o xs) => env.set i (.v (.lst xs)) | some (.d t kvs) => env.set i (.v (.dct t kvs)) | _ => env
def sFrz (i : Nat) (s : SX) : SX := fun env => s (frz i env)
@[simp] theorem sFrz_app (i : Nat) (s : SX) (env : Ev) : sFrz i s env = (s (frz i env)) := rfl
def sApp (i : Nat) (f : EX) : SX := fun env => match env[i]? with
  | some (.o xs) => thenO (f env) env fun p => if xs.length < 1000000 then .nx (env.set i (.o (xs ++ [p]))) else .bad
  | _ => .bad
@[simp] theorem sApp_app (i : Nat) (f : EX) (env : Ev) : sApp i f env = (match env[i]? with
  | some (.o xs) => thenO (f env) env fun p => if xs.length < 1000000 then .nx (env.set i (.o (xs ++ [p]))) else .bad
  | _ => .bad) := rfl
/-- the list in slot i made another one, without arguments: reverse, clear -/
def sMut (i : Nat) (h : List PV → List PV) : SX := fun env => match env[i]? with | some (.o xs) => .nx (env.set i (.o (h xs))) | _ => .bad
@[simp] theorem sMut_app (i : Nat) (h : List PV → List PV) (env : Ev) : sMut i h env = (match env[i]? with | some (.o xs) => .nx (env.set i (.o (h xs))) | _ => .bad) := rfl
abbrev BX := PV → Ev → R Ev
def bName (i : Nat) : BX := fun p env => .ok (env.set i (.v p))
@[simp] theorem bName_app (i : Nat) (p : PV) (env : Ev) : bName i p env = (.ok (env.set i (.v p))) := rfl
def bTup2 (i j : Nat) : BX := fun p env => match p with | .tup [x, y] => .ok ((env.set i (.v x)).set j (.v y)) | _ => .bad
@[simp] theorem bTup2_app (i j : Nat) (p : PV) (env : Ev) : bTup2 i j p env = (match p with | .tup [x, y] => .ok ((env.set i (.v x)).set j (.v y)) | _ => .bad) := rfl
def forF (b : BX) (s : SX) : List PV → Ev → Ou
  | [], env => .nx env
  | p :: ps, env => match b p env with
    | .ok e => (match s e with | .nx e' => forF b s ps e' | .ct e' => forF b s ps e' | .bk e' => .nx e' | o => o)
    | _ => .bad
def sFor (b : BX) (it : AX) (s : SX) : SX := fun env => thenO (it env) env fun ps => forF b s ps env
theorem sFor_app (b : BX) (it : AX) (s : SX) (env : Ev) : sFor b it s env = (thenO (it env) env fun ps => forF b s ps env) := rfl
def sUnp (b : BX) (f : EX) : SX := fun env => thenO (f env) env fun p => match b p env with | .ok e => .nx e | _ => .bad
@[simp] theorem sUnp_app (b : BX) (f : EX) (env : Ev) : sUnp b f env = (thenO (f env) env fun p => match b p env with | .ok e => .nx e | _ => .bad) := rfl
def whF (f : EX) (s : SX) : Nat → Ev → Ou
  | 0, _ => .bad
  | n + 1, env => match f env with
    | .ok (.bl true) => (match s env with | .nx e => whF f s n e | .ct e => whF f s n e | .bk e => .nx e | o => o)
    | .ok (.bl false) => .nx env
    | .ex x => .ex x env
    | _ => .bad
open Classical in
noncomputable def sWh (f : EX) (s : SX) : SX := fun env => if h : ∃ n, whF f s n env ≠ .bad then whF f s (choose h) env else .bad
/-- is an error of the class c one of the class h -/
@[simp] def subX (c h : String) : Bool := c == h || h == "JoinError" || h == "ValueError"
@[simp] def noX (e : Ev) : Bool := e.all fun s => match s with | .x _ => false | _ => true
/-- behind an except suite: its name is gone -/
@[simp] def unX (i : Nat) : Ou → Ou
  | .nx e => if noX (e.set i .u) then .nx (e.set i .u) else .bad
  | .bk e => if noX (e.set i .u) then .bk (e.set i .u) else .bad
  | .ct e => if noX (e.set i .u) then .ct (e.set i .u) else .bad
  | .rt p => .rt p
  | .rf p => .rf p
  | .rs p S => .rs p S
  | .rg p S => .rg p S
  | _ => .bad
/-- try: s, except h as slot i: t -/
def tryK (o : Ou) (i : Nat) (h : String) (t : SX) : Ou := match o with
  | .ex x e => if subX x.cls h then (if noX e then unX i (t (e.set i (.x x))) else .bad) else .ex x e
  | o => o
@[simp] theorem tryK_nx (e : Ev) (i : Nat) (h : String) (t : SX) : tryK (.nx e) i h t = .nx e := rfl
@[simp] theorem tryK_rt (e : PV) (i : Nat) (h : String) (t : SX) : tryK (.rt e) i h t = .rt e := rfl
@[simp] theorem tryK_rf (e : List PV) (i : Nat) (h : String) (t : SX) : tryK (.rf e) i h t = .rf e := rfl
@[simp] theorem tryK_rs (p : PV) (S : List Cl) (i : Nat) (h : String) (t : SX) : tryK (.rs p S) i h t = .rs p S := rfl
@[simp] theorem tryK_rg (p : List PV) (S : List Cl) (i : Nat) (h : String) (t : SX) : tryK (.rg p S) i h t = .rg p S := rfl
@[simp] theorem tryK_bk (e : Ev) (i : Nat) (h : String) (t : SX) : tryK (.bk e) i h t = .bk e := rfl
@[simp] theorem tryK_ct (e : Ev) (i : Nat) (h : String) (t : SX) : tryK (.ct e) i h t = .ct e := rfl
@[simp] theorem tryK_bad (i : Nat) (h : String) (t : SX) : tryK .bad i h t = .bad := rfl
@[simp] theorem tryK_ex (x : PX) (e : Ev) (i : Nat) (h : String) (t : SX) : tryK (.ex x e) i h t = if subX x.cls h then (if noX e then unX i (t (e.set i (.x x))) else .bad) else .ex x e := rfl
def sTry (i : Nat) (s : SX) (h : String) (t : SX) : SX := fun env => tryK (s env) i h t
@[simp] theorem sTry_app (i : Nat) (s : SX) (h : String) (t : SX) (env : Ev) : sTry i s h t env = tryK (s env) i h t := rfl
/-- a field of the caught error, an error of the class h -/
def eFld (i : Nat) (h f : String) : EX := fun env => match env[i]? with
  | some (.x e) => if e.cls = h then (match e.fs.lookup f with | some p => .ok p | none => .bad) else .bad
  | _ => .bad
@[simp] theorem eFld_app (i : Nat) (h f : String) (env : Ev) : eFld i h f env = (match env[i]? with
  | some (.x e) => if e.cls = h then (match e.fs.lookup f with | some p => .ok p | none => .bad) else .bad
  | _ => .bad) := rfl
def compF (b : BX) (t f : EX) : List PV → Ev → R (List PV)
  | [], _ => .ok []
  | p :: ps, env => match b p env with
    | .ok e => (match t e with
      | .ok (.bl true) => (match f e with | .ok y => (match compF b t f ps env with | .ok r => .ok (y :: r) | _ => .bad) | _ => .bad)
      | .ok (.bl false) => compF b t f ps env
      | _ => .bad)
    | _ => .bad
/-- the slots of a comprehension's own names are empty within it -/
def wipeE (env : Ev) : List Nat → Ev
  | [] => env
  | i :: is => (wipeE env is).set i .u
@[simp] theorem wipeE_nil (env : Ev) : wipeE env [] = env := rfl
@[simp] theorem wipeE_cons (env : Ev) (i : Nat) (is : List Nat) : wipeE env (i :: is) = (wipeE env is).set i .u := rfl
def compK (is : List Nat) (b : BX) (t f : EX) (env : Ev) (ps : List PV) : R (List PV) := if ps.length ≤ 1000000 then compF b t f ps (wipeE env is) else .bad
def aComp (is : List Nat) (b : BX) (it : AX) (t f : EX) : AX := fun env => (it env).bind (compK is b t f env)
@[simp] theorem aComp_app (is : List Nat) (b : BX) (it : AX) (t f : EX) (env : Ev) : aComp is b it t f env = (it env).bind (compK is b t f env) := rfl

@[simp] def env0 (n : Nat) (ps : List Sl) : Ev := ps ++ List.replicate (n - ps.length) .u
/-- its answer -/
def outP : Ou → R PV
  | .rt p => .ok p
  | .nx _ => .ok .non
  | .ex x _ => .ex x
  | _ => .bad
@[simp] theorem outP_rt (p : PV) : outP (.rt p) = .ok p := rfl
@[simp] theorem outP_nx (e : Ev) : outP (.nx e) = .ok .non := rfl
@[simp] theorem outP_ex (x : PX) (e : Ev) : outP (.ex x e) = .ex x := rfl
@[simp] theorem outP_bad : outP .bad = .bad := rfl
@[simp] def runP (s : SX) (env : Ev) : R PV := outP (s env)
/-- .. where it answers by a new list -/
def outF : Ou → R (List PV)
  | .rf p => .ok p
  | .ex x _ => .ex x
  | _ => .bad
@[simp] theorem outF_rf (p : List PV) : outF (.rf p) = .ok p := rfl
@[simp] theorem outF_ex (x : PX) (e : Ev) : outF (.ex x e) = .ex x := rfl
@[simp] theorem outF_bad : outF .bad = .bad := rfl
@[simp] def runF (s : SX) (env : Ev) : R (List PV) := outF (s env)
/-- modes of parameters: true borrowed -/
@[simp] def argS : List Bool → List PV → List Sl
  | true :: bs, p :: ps => .b p :: argS bs ps
  | false :: bs, p :: ps => .v p :: argS bs ps
  | _, _ => []
@[simp] def mkP (n : Nat) (md : List Bool) (s : SX) (ps : List PV) : R PV := if ps.length = md.length then runP s (env0 n (argS md ps)) else .bad
@[simp] def mkF (n : Nat) (md : List Bool) (s : SX) (ps : List PV) : R (List PV) := if ps.length = md.length then runF s (env0 n (argS md ps)) else .bad

def smallI (a : Int) : Bool := decide (-(2 ^ 64) < a ∧ a < 2 ^ 64)
def wideI (a : Int) : Bool := decide (a.natAbs < 2 ^ 4000)
def pAdd : PV → PV → Option PV
  | .int a, .int b => some (.int (a + b))
  | .str a, .str b => if a.length + b.length ≤ 1000000 then some (.str (a ++ b)) else none
  | _, _ => none
@[simp] theorem pAdd_0 (a b : Int) : pAdd (.int a) (.int b) = some (.int (a + b)) := rfl
@[simp] theorem pAdd_1 (a b : List Nat) : pAdd (.str a) (.str b) = (if a.length + b.length ≤ 1000000 then some (.str (a ++ b)) else none) := rfl
def pSub : PV → PV → Option PV
  | .int a, .int b => some (.int (a - b))
  | _, _ => none
@[simp] theorem pSub_0 (a b : Int) : pSub (.int a) (.int b) = some (.int (a - b)) := rfl
def pMul : PV → PV → Option PV
  | .int a, .int b => if smallI a || smallI b || (wideI a && wideI b) then some (.int (a * b)) else none
  | _, _ => none
@[simp] theorem pMul_0 (a b : Int) : pMul (.int a) (.int b) = (if smallI a || smallI b || (wideI a && wideI b) then some (.int (a * b)) else none) := rfl
def pMod : PV → PV → Option PV
  | .int a, .int b => if 0 < b then some (.int (a % b)) else none
  | _, _ => none
@[simp] theorem pMod_0 (a b : Int) : pMod (.int a) (.int b) = (if 0 < b then some (.int (a % b)) else none) := rfl
def pDiv : PV → PV → Option PV
  | .int a, .int b => if 0 < b && wideI b then some (.int (a / b)) else none
  | _, _ => none
@[simp] theorem pDiv_0 (a b : Int) : pDiv (.int a) (.int b) = (if 0 < b && wideI b then some (.int (a / b)) else none) := rfl
def pPow : PV → PV → Option PV
  | .int a, .int b => if 0 ≤ b && b ≤ 1000 && smallI a then some (.int (a ^ b.toNat)) else none
  | _, _ => none
@[simp] theorem pPow_0 (a b : Int) : pPow (.int a) (.int b) = (if 0 ≤ b && b ≤ 1000 && smallI a then some (.int (a ^ b.toNat)) else none) := rfl
def pNeg : PV → Option PV
  | .int a => some (.int (-a))
  | _ => none
@[simp] theorem pNeg_non   : pNeg  .non = none := rfl
@[simp] theorem pNeg_bl  (b : Bool) : pNeg  (.bl b) = none := rfl
@[simp] theorem pNeg_int  (i : Int) : pNeg  (.int i) = some (.int (-i)) := rfl
@[simp] theorem pNeg_str  (s : List Nat) : pNeg  (.str s) = none := rfl
@[simp] theorem pNeg_lst  (xs : List PV) : pNeg  (.lst xs) = none := rfl
@[simp] theorem pNeg_tup  (xs : List PV) : pNeg  (.tup xs) = none := rfl
@[simp] theorem pNeg_dct  (t : Bool) (kvs : List (PV × PV)) : pNeg  (.dct t kvs) = none := rfl
@[simp] theorem pNeg_ob  (k : Nat) (ps : List PV) : pNeg  (.ob k ps) = none := rfl
@[simp] theorem pNeg_scr  (xs : List PV) : pNeg  (.scr xs) = none := rfl
def pLt : PV → PV → Option PV
  | .int a, .int b => some (.bl (decide (a < b)))
  | _, _ => none
@[simp] theorem pLt_0 (a b : Int) : pLt (.int a) (.int b) = some (.bl (decide (a < b))) := rfl
def pLe : PV → PV → Option PV
  | .int a, .int b => some (.bl (decide (a ≤ b)))
  | _, _ => none
@[simp] theorem pLe_0 (a b : Int) : pLe (.int a) (.int b) = some (.bl (decide (a ≤ b))) := rfl
def pGt : PV → PV → Option PV
  | .int a, .int b => some (.bl (decide (b < a)))
  | _, _ => none
@[simp] theorem pGt_0 (a b : Int) : pGt (.int a) (.int b) = some (.bl (decide (b < a))) := rfl
def pGe : PV → PV → Option PV
  | .int a, .int b => some (.bl (decide (b ≤ a)))
  | _, _ => none
@[simp] theorem pGe_0 (a b : Int) : pGe (.int a) (.int b) = some (.bl (decide (b ≤ a))) := rfl
mutual
@[simp] def eqP : PV → PV → Bool
  | .non, .non => true
  | .bl a, .bl b => a == b
  | .bl a, .int b => (if a then 1 else 0) == b
  | .int a, .bl b => a == (if b then 1 else 0)
  | .int a, .int b => a == b
  | .str a, .str b => a == b
  | .lst a, .lst b => eqPs a b
  | .tup a, .tup b => eqPs a b
  | _, _ => false
@[simp] def eqPs : List PV → List PV → Bool
  | [], [] => true
  | a :: as, b :: bs => eqP a b && eqPs as bs
  | _, _ => false
end
mutual
/-- data without dicts and objects, at most so deep -/
@[simp] def datP : PV → Bool
  | .non => true | .bl _ => true | .int _ => true | .str _ => true
  | .lst xs => datPs xs
  | .tup xs => datPs xs
  | _ => false
@[simp] def datPs : List PV → Bool
  | [] => true
  | x :: xs => datP x && datPs xs
end
mutual
@[simp] def depP : PV → Nat
  | .lst xs => depPs xs + 1
  | .tup xs => depPs xs + 1
  | _ => 0
@[simp] def depPs : List PV → Nat
  | [] => 0
  | x :: xs => max (depP x) (depPs xs)
end
@[simp] def shp (p : PV) : Bool := datP p && decide (depP p ≤ 64)
@[simp] def pEq (p q : PV) : Option PV := if shp p && shp q then some (.bl (eqP p q)) else none
@[simp] def pNe (p q : PV) : Option PV := if shp p && shp q then some (.bl (!eqP p q)) else none
def isNon : PV → Bool
  | .non => true
  | _ => false
@[simp] theorem isNon_non   : isNon  .non = true := rfl
@[simp] theorem isNon_bl  (b : Bool) : isNon  (.bl b) = false := rfl
@[simp] theorem isNon_int  (i : Int) : isNon  (.int i) = false := rfl
@[simp] theorem isNon_str  (s : List Nat) : isNon  (.str s) = false := rfl
@[simp] theorem isNon_lst  (xs : List PV) : isNon  (.lst xs) = false := rfl
@[simp] theorem isNon_tup  (xs : List PV) : isNon  (.tup xs) = false := rfl
@[simp] theorem isNon_dct  (t : Bool) (kvs : List (PV × PV)) : isNon  (.dct t kvs) = false := rfl
@[simp] theorem isNon_ob  (k : Nat) (ps : List PV) : isNon  (.ob k ps) = false := rfl
@[simp] theorem isNon_scr  (xs : List PV) : isNon  (.scr xs) = false := rfl
@[simp] theorem isNon_er (c : String) (fs : List (String × PV)) : isNon (.er c fs) = false := rfl
@[simp] theorem isNon_memo (p q : PV) : isNon (.memo p q) = false := rfl
@[simp] theorem isNon_loc (n : Nat) : isNon (.loc n) = false := rfl
@[simp] def pIsN (p : PV) : Option PV := some (.bl (isNon p))
@[simp] def pNotN (p : PV) : Option PV := some (.bl (!isNon p))
/-- is True, is not True, is False .. of a truth -/
def pIsB (c : Bool) : PV → Option PV
  | .bl b => some (.bl (b == c))
  | _ => none
@[simp] theorem pIsB_non (c : Bool)  : pIsB c .non = none := rfl
@[simp] theorem pIsB_bl (c : Bool) (b : Bool) : pIsB c (.bl b) = some (.bl (b == c)) := rfl
@[simp] theorem pIsB_int (c : Bool) (i : Int) : pIsB c (.int i) = none := rfl
@[simp] theorem pIsB_str (c : Bool) (s : List Nat) : pIsB c (.str s) = none := rfl
@[simp] theorem pIsB_lst (c : Bool) (xs : List PV) : pIsB c (.lst xs) = none := rfl
@[simp] theorem pIsB_tup (c : Bool) (xs : List PV) : pIsB c (.tup xs) = none := rfl
@[simp] theorem pIsB_dct (c : Bool) (t : Bool) (kvs : List (PV × PV)) : pIsB c (.dct t kvs) = none := rfl
@[simp] theorem pIsB_ob (c : Bool) (k : Nat) (ps : List PV) : pIsB c (.ob k ps) = none := rfl
@[simp] theorem pIsB_scr (c : Bool) (xs : List PV) : pIsB c (.scr xs) = none := rfl
def pNotB (c : Bool) : PV → Option PV
  | .bl b => some (.bl (!(b == c)))
  | _ => none
@[simp] theorem pNotB_non (c : Bool)  : pNotB c .non = none := rfl
@[simp] theorem pNotB_bl (c : Bool) (b : Bool) : pNotB c (.bl b) = some (.bl (!(b == c))) := rfl
@[simp] theorem pNotB_int (c : Bool) (i : Int) : pNotB c (.int i) = none := rfl
@[simp] theorem pNotB_str (c : Bool) (s : List Nat) : pNotB c (.str s) = none := rfl
@[simp] theorem pNotB_lst (c : Bool) (xs : List PV) : pNotB c (.lst xs) = none := rfl
@[simp] theorem pNotB_tup (c : Bool) (xs : List PV) : pNotB c (.tup xs) = none := rfl
@[simp] theorem pNotB_dct (c : Bool) (t : Bool) (kvs : List (PV × PV)) : pNotB c (.dct t kvs) = none := rfl
@[simp] theorem pNotB_ob (c : Bool) (k : Nat) (ps : List PV) : pNotB c (.ob k ps) = none := rfl
@[simp] theorem pNotB_scr (c : Bool) (xs : List PV) : pNotB c (.scr xs) = none := rfl
/-- one sign in a text -/
def pInS : PV → PV → Option PV
  | .str [c], .str s => some (.bl (decide (c ∈ s)))
  | _, _ => none
@[simp] theorem pInS_0 (c : Nat) (s : List Nat) : pInS (.str [c]) (.str s) = some (.bl (decide (c ∈ s))) := rfl
def pNinS : PV → PV → Option PV
  | .str [c], .str s => some (.bl (!decide (c ∈ s)))
  | _, _ => none
@[simp] theorem pNinS_0 (c : Nat) (s : List Nat) : pNinS (.str [c]) (.str s) = some (.bl (!decide (c ∈ s))) := rfl
def pLen : PV → Option PV
  | .str s => if s.length ≤ 1000000 then some (.int s.length) else none
  | .lst xs => some (.int xs.length)
  | .scr xs => some (.int xs.length)
  | .tup xs => some (.int xs.length)
  | _ => none
@[simp] theorem pLen_non   : pLen  .non = none := rfl
@[simp] theorem pLen_bl  (b : Bool) : pLen  (.bl b) = none := rfl
@[simp] theorem pLen_int  (i : Int) : pLen  (.int i) = none := rfl
@[simp] theorem pLen_str  (s : List Nat) : pLen  (.str s) = (if s.length ≤ 1000000 then some (.int s.length) else none) := rfl
@[simp] theorem pLen_lst  (xs : List PV) : pLen  (.lst xs) = some (.int xs.length) := rfl
@[simp] theorem pLen_tup  (xs : List PV) : pLen  (.tup xs) = some (.int xs.length) := rfl
@[simp] theorem pLen_dct  (t : Bool) (kvs : List (PV × PV)) : pLen  (.dct t kvs) = none := rfl
@[simp] theorem pLen_ob  (k : Nat) (ps : List PV) : pLen  (.ob k ps) = none := rfl
@[simp] theorem pLen_scr  (xs : List PV) : pLen  (.scr xs) = some (.int xs.length) := rfl
/-- a place by an index of either sign -/
def atN {α : Type} (xs : List α) (i : Int) : Option α := if 0 ≤ i then xs[i.toNat]? else if -(xs.length : Int) ≤ i then xs[(i + xs.length).toNat]? else none
def pIx : PV → PV → Option PV
  | .lst xs, .int i => atN xs i
  | .scr xs, .int i => atN xs i
  | .tup xs, .int i => atN xs i
  | .str s, .int i => if s.length ≤ 1000000 then (match atN s i with | some c => some (.str [c]) | none => none) else none
  | _, _ => none
@[simp] theorem pIx_0 (xs : List PV) (i : Int) : pIx (.lst xs) (.int i) = atN xs i := rfl
@[simp] theorem pIx_1 (xs : List PV) (i : Int) : pIx (.scr xs) (.int i) = atN xs i := rfl
@[simp] theorem pIx_2 (xs : List PV) (i : Int) : pIx (.tup xs) (.int i) = atN xs i := rfl
@[simp] theorem pIx_3 (s : List Nat) (i : Int) : pIx (.str s) (.int i) = (if s.length ≤ 1000000 then (match atN s i with | some c => some (.str [c]) | none => none) else none) := rfl
/-- the bounds of a slice -/
def clampI (n : Nat) (i : Int) : Nat := if i < 0 then (i + n).toNat else min i.toNat n
def loI (n : Nat) : Option Int → Nat
  | none => 0
  | some i => clampI n i
def hiI (n : Nat) : Option Int → Nat
  | none => n
  | some i => clampI n i
def cutN {α : Type} (xs : List α) (lo hi : Option Int) : List α := (xs.drop (loI xs.length lo)).take (hiI xs.length hi - loI xs.length lo)
abbrev OX := Ev → R (Option Int)
def oNo : OX := fun _ => .ok none
@[simp] theorem oNo_app  (env : Ev) : oNo  env = (.ok none) := rfl
def oSome (f : EX) : OX := fun env => (f env).bind fun p => match p with | .int i => .ok (some i) | _ => .bad
@[simp] theorem oSome_app (f : EX) (env : Ev) : oSome f env = ((f env).bind fun p => match p with | .int i => .ok (some i) | _ => .bad) := rfl
def cutS : PV → Option Int → Option Int → Option PV
  | .str s, a, b => if s.length ≤ 1000000 then some (.str (cutN s a b)) else none
  | _, _, _ => none
@[simp] theorem cutS_0 (s : List Nat) (a b : Option Int) : cutS (.str s) a b = (if s.length ≤ 1000000 then some (.str (cutN s a b)) else none) := rfl
def eSlS (f : EX) (lo hi : OX) : EX := fun env => (f env).bind fun x => (lo env).bind fun a => (hi env).bind fun b => ofO (cutS x a b)
@[simp] theorem eSlS_app (f : EX) (lo hi : OX) (env : Ev) : eSlS f lo hi env = ((f env).bind fun x => (lo env).bind fun a => (hi env).bind fun b => ofO (cutS x a b)) := rfl
def cutL : PV → Option Int → Option Int → Option (List PV)
  | .lst xs, a, b => some (cutN xs a b)
  | .scr xs, a, b => some (cutN xs a b)
  | _, _, _ => none
@[simp] theorem cutL_0 (xs : List PV) (a b : Option Int) : cutL (.lst xs) a b = some (cutN xs a b) := rfl
@[simp] theorem cutL_1 (xs : List PV) (a b : Option Int) : cutL (.scr xs) a b = some (cutN xs a b) := rfl
def lSl (f : EX) (lo hi : OX) : AX := fun env => (f env).bind fun x => (lo env).bind fun a => (hi env).bind fun b => ofO (cutL x a b)
@[simp] theorem lSl_app (f : EX) (lo hi : OX) (env : Ev) : lSl f lo hi env = ((f env).bind fun x => (lo env).bind fun a => (hi env).bind fun b => ofO (cutL x a b)) := rfl
/-- a new list of what is handed in -/
def lOf : PV → Option (List PV)
  | .lst xs => some xs
  | .scr xs => some xs
  | .tup xs => some xs
  | .str s => if s.length ≤ 1000000 then some (s.map fun c => .str [c]) else none
  | _ => none
@[simp] theorem lOf_non   : lOf  .non = none := rfl
@[simp] theorem lOf_bl  (b : Bool) : lOf  (.bl b) = none := rfl
@[simp] theorem lOf_int  (i : Int) : lOf  (.int i) = none := rfl
@[simp] theorem lOf_str  (s : List Nat) : lOf  (.str s) = (if s.length ≤ 1000000 then some (s.map fun c => .str [c]) else none) := rfl
@[simp] theorem lOf_lst  (xs : List PV) : lOf  (.lst xs) = some xs := rfl
@[simp] theorem lOf_tup  (xs : List PV) : lOf  (.tup xs) = some xs := rfl
@[simp] theorem lOf_dct  (t : Bool) (kvs : List (PV × PV)) : lOf  (.dct t kvs) = none := rfl
@[simp] theorem lOf_ob  (k : Nat) (ps : List PV) : lOf  (.ob k ps) = none := rfl
@[simp] theorem lOf_scr  (xs : List PV) : lOf  (.scr xs) = some xs := rfl
def lUn (h : PV → Option (List PV)) (f : EX) : AX := fun env => (f env).bind fun x => ofO (h x)
@[simp] theorem lUn_app (h : PV → Option (List PV)) (f : EX) (env : Ev) : lUn h f env = ((f env).bind fun x => ofO (h x)) := rfl
def lOp (h : PV → PV → Option (List PV)) (f g : EX) : AX := fun env => (f env).bind fun x => (g env).bind fun y => ofO (h x y)
@[simp] theorem lOp_app (h : PV → PV → Option (List PV)) (f g : EX) (env : Ev) : lOp h f g env = ((f env).bind fun x => (g env).bind fun y => ofO (h x y)) := rfl
def lCat : PV → PV → Option (List PV)
  | .lst xs, .lst ys => if xs.length + ys.length ≤ 1000000 then some (xs ++ ys) else none
  | .scr xs, .lst ys => if xs.length + ys.length ≤ 1000000 then some (xs ++ ys) else none
  | .lst xs, .scr ys => if xs.length + ys.length ≤ 1000000 then some (xs ++ ys) else none
  | _, _ => none
@[simp] theorem lCat_0 (xs ys : List PV) : lCat (.lst xs) (.lst ys) = (if xs.length + ys.length ≤ 1000000 then some (xs ++ ys) else none) := rfl
@[simp] theorem lCat_1 (xs ys : List PV) : lCat (.scr xs) (.lst ys) = (if xs.length + ys.length ≤ 1000000 then some (xs ++ ys) else none) := rfl
@[simp] theorem lCat_2 (xs ys : List PV) : lCat (.lst xs) (.scr ys) = (if xs.length + ys.length ≤ 1000000 then some (xs ++ ys) else none) := rfl
def lRep : PV → PV → Option (List PV)
  | .lst xs, .int n => if 0 ≤ n && n ≤ 1000000 && xs.length * n.toNat ≤ 1000000 then some (List.replicate n.toNat xs).flatten else none
  | _, _ => none
@[simp] theorem lRep_0 (xs : List PV) (n : Int) : lRep (.lst xs) (.int n) = (if 0 ≤ n && n ≤ 1000000 && xs.length * n.toNat ≤ 1000000 then some (List.replicate n.toNat xs).flatten else none) := rfl
/-- what a for walks -/
def iSeq : PV → Option (List PV)
  | .lst xs => some xs
  | .scr xs => some xs
  | _ => none
@[simp] theorem iSeq_non   : iSeq  .non = none := rfl
@[simp] theorem iSeq_bl  (b : Bool) : iSeq  (.bl b) = none := rfl
@[simp] theorem iSeq_int  (i : Int) : iSeq  (.int i) = none := rfl
@[simp] theorem iSeq_str  (s : List Nat) : iSeq  (.str s) = none := rfl
@[simp] theorem iSeq_lst  (xs : List PV) : iSeq  (.lst xs) = some xs := rfl
@[simp] theorem iSeq_tup  (xs : List PV) : iSeq  (.tup xs) = none := rfl
@[simp] theorem iSeq_dct  (t : Bool) (kvs : List (PV × PV)) : iSeq  (.dct t kvs) = none := rfl
@[simp] theorem iSeq_ob  (k : Nat) (ps : List PV) : iSeq  (.ob k ps) = none := rfl
@[simp] theorem iSeq_scr  (xs : List PV) : iSeq  (.scr xs) = some xs := rfl
def iTxt : PV → Option (List PV)
  | .str s => some (s.map fun c => .str [c])
  | _ => none
@[simp] theorem iTxt_non   : iTxt  .non = none := rfl
@[simp] theorem iTxt_bl  (b : Bool) : iTxt  (.bl b) = none := rfl
@[simp] theorem iTxt_int  (i : Int) : iTxt  (.int i) = none := rfl
@[simp] theorem iTxt_str  (s : List Nat) : iTxt  (.str s) = some (s.map fun c => .str [c]) := rfl
@[simp] theorem iTxt_lst  (xs : List PV) : iTxt  (.lst xs) = none := rfl
@[simp] theorem iTxt_tup  (xs : List PV) : iTxt  (.tup xs) = none := rfl
@[simp] theorem iTxt_dct  (t : Bool) (kvs : List (PV × PV)) : iTxt  (.dct t kvs) = none := rfl
@[simp] theorem iTxt_ob  (k : Nat) (ps : List PV) : iTxt  (.ob k ps) = none := rfl
@[simp] theorem iTxt_scr  (xs : List PV) : iTxt  (.scr xs) = none := rfl
def enumP : Nat → List PV → List PV
  | _, [] => []
  | n, x :: xs => .tup [.int n, x] :: enumP (n + 1) xs
def iEnL : PV → Option (List PV)
  | .lst xs => some (enumP 0 xs)
  | .scr xs => some (enumP 0 xs)
  | _ => none
@[simp] theorem iEnL_non   : iEnL  .non = none := rfl
@[simp] theorem iEnL_bl  (b : Bool) : iEnL  (.bl b) = none := rfl
@[simp] theorem iEnL_int  (i : Int) : iEnL  (.int i) = none := rfl
@[simp] theorem iEnL_str  (s : List Nat) : iEnL  (.str s) = none := rfl
@[simp] theorem iEnL_lst  (xs : List PV) : iEnL  (.lst xs) = some (enumP 0 xs) := rfl
@[simp] theorem iEnL_tup  (xs : List PV) : iEnL  (.tup xs) = none := rfl
@[simp] theorem iEnL_dct  (t : Bool) (kvs : List (PV × PV)) : iEnL  (.dct t kvs) = none := rfl
@[simp] theorem iEnL_ob  (k : Nat) (ps : List PV) : iEnL  (.ob k ps) = none := rfl
@[simp] theorem iEnL_scr  (xs : List PV) : iEnL  (.scr xs) = some (enumP 0 xs) := rfl
def iEnS : PV → Option (List PV)
  | .str s => some (enumP 0 (s.map fun c => .str [c]))
  | _ => none
@[simp] theorem iEnS_non   : iEnS  .non = none := rfl
@[simp] theorem iEnS_bl  (b : Bool) : iEnS  (.bl b) = none := rfl
@[simp] theorem iEnS_int  (i : Int) : iEnS  (.int i) = none := rfl
@[simp] theorem iEnS_str  (s : List Nat) : iEnS  (.str s) = some (enumP 0 (s.map fun c => .str [c])) := rfl
@[simp] theorem iEnS_lst  (xs : List PV) : iEnS  (.lst xs) = none := rfl
@[simp] theorem iEnS_tup  (xs : List PV) : iEnS  (.tup xs) = none := rfl
@[simp] theorem iEnS_dct  (t : Bool) (kvs : List (PV × PV)) : iEnS  (.dct t kvs) = none := rfl
@[simp] theorem iEnS_ob  (k : Nat) (ps : List PV) : iEnS  (.ob k ps) = none := rfl
@[simp] theorem iEnS_scr  (xs : List PV) : iEnS  (.scr xs) = none := rfl
def rngP (lo : Int) (n : Nat) : List PV := (List.range n).map fun k => .int (lo + (k : Nat))
def iRn1 : PV → Option (List PV)
  | .int n => if -(2 ^ 62) ≤ n && n < 2 ^ 62 then some (rngP 0 n.toNat) else none
  | _ => none
@[simp] theorem iRn1_non   : iRn1  .non = none := rfl
@[simp] theorem iRn1_bl  (b : Bool) : iRn1  (.bl b) = none := rfl
@[simp] theorem iRn1_int  (i : Int) : iRn1  (.int i) = (if -(2 ^ 62) ≤ i && i < 2 ^ 62 then some (rngP 0 i.toNat) else none) := rfl
@[simp] theorem iRn1_str  (s : List Nat) : iRn1  (.str s) = none := rfl
@[simp] theorem iRn1_lst  (xs : List PV) : iRn1  (.lst xs) = none := rfl
@[simp] theorem iRn1_tup  (xs : List PV) : iRn1  (.tup xs) = none := rfl
@[simp] theorem iRn1_dct  (t : Bool) (kvs : List (PV × PV)) : iRn1  (.dct t kvs) = none := rfl
@[simp] theorem iRn1_ob  (k : Nat) (ps : List PV) : iRn1  (.ob k ps) = none := rfl
@[simp] theorem iRn1_scr  (xs : List PV) : iRn1  (.scr xs) = none := rfl
def iRn2 : PV → PV → Option (List PV)
  | .int a, .int b => if -(2 ^ 62) ≤ a && a < 2 ^ 62 && -(2 ^ 62) ≤ b && b < 2 ^ 62 then some (rngP a (b - a).toNat) else none
  | _, _ => none
@[simp] theorem iRn2_0 (a b : Int) : iRn2 (.int a) (.int b) = (if -(2 ^ 62) ≤ a && a < 2 ^ 62 && -(2 ^ 62) ≤ b && b < 2 ^ 62 then some (rngP a (b - a).toNat) else none) := rfl
/-- isinstance of a built-in class -/
def tyN : PV → String
  | .non => "NoneType"
  | .bl _ => "bool"
  | .int _ => "int"
  | .str _ => "str"
  | .lst _ => "list"
  | .tup _ => "tuple"
  | .dct _ _ => "dict"
  | .ob _ _ => "object"
  | .scr _ => "list"
  | .er _ _ => "error"
  | .memo _ _ => "dict"
  | .loc _ => "loc"
@[simp] theorem tyN_non   : tyN  .non = "NoneType" := rfl
@[simp] theorem tyN_bl  (b : Bool) : tyN  (.bl b) = "bool" := rfl
@[simp] theorem tyN_int  (i : Int) : tyN  (.int i) = "int" := rfl
@[simp] theorem tyN_str  (s : List Nat) : tyN  (.str s) = "str" := rfl
@[simp] theorem tyN_lst  (xs : List PV) : tyN  (.lst xs) = "list" := rfl
@[simp] theorem tyN_tup  (xs : List PV) : tyN  (.tup xs) = "tuple" := rfl
@[simp] theorem tyN_dct  (t : Bool) (kvs : List (PV × PV)) : tyN  (.dct t kvs) = "dict" := rfl
@[simp] theorem tyN_ob  (k : Nat) (ps : List PV) : tyN  (.ob k ps) = "object" := rfl
@[simp] theorem tyN_scr  (xs : List PV) : tyN  (.scr xs) = "list" := rfl
@[simp] def isTyN (c n : String) : Bool := c == n || (c == "int" && n == "bool")
def isTy (c : String) (p : PV) : Bool := isTyN c (tyN p)
@[simp] theorem isTy_non (c : String)  : isTy c .non = isTyN c "NoneType" := rfl
@[simp] theorem isTy_bl (c : String) (b : Bool) : isTy c (.bl b) = isTyN c "bool" := rfl
@[simp] theorem isTy_int (c : String) (i : Int) : isTy c (.int i) = isTyN c "int" := rfl
@[simp] theorem isTy_str (c : String) (s : List Nat) : isTy c (.str s) = isTyN c "str" := rfl
@[simp] theorem isTy_lst (c : String) (xs : List PV) : isTy c (.lst xs) = isTyN c "list" := rfl
@[simp] theorem isTy_tup (c : String) (xs : List PV) : isTy c (.tup xs) = isTyN c "tuple" := rfl
@[simp] theorem isTy_dct (c : String) (t : Bool) (kvs : List (PV × PV)) : isTy c (.dct t kvs) = isTyN c "dict" := rfl
@[simp] theorem isTy_ob (c : String) (k : Nat) (ps : List PV) : isTy c (.ob k ps) = isTyN c "object" := rfl
@[simp] theorem isTy_scr (c : String) (xs : List PV) : isTy c (.scr xs) = isTyN c "list" := rfl
def tyP : PV → Bool
  | .ob _ _ => false
  | .scr _ => false
  | .er _ _ => false
  | .memo _ _ => false
  | .loc _ => false
  | _ => true
@[simp] theorem tyP_non   : tyP  .non = true := rfl
@[simp] theorem tyP_bl  (b : Bool) : tyP  (.bl b) = true := rfl
@[simp] theorem tyP_int  (i : Int) : tyP  (.int i) = true := rfl
@[simp] theorem tyP_str  (s : List Nat) : tyP  (.str s) = true := rfl
@[simp] theorem tyP_lst  (xs : List PV) : tyP  (.lst xs) = true := rfl
@[simp] theorem tyP_tup  (xs : List PV) : tyP  (.tup xs) = true := rfl
@[simp] theorem tyP_dct  (t : Bool) (kvs : List (PV × PV)) : tyP  (.dct t kvs) = true := rfl
@[simp] theorem tyP_ob  (k : Nat) (ps : List PV) : tyP  (.ob k ps) = false := rfl
@[simp] theorem tyP_scr  (xs : List PV) : tyP  (.scr xs) = false := rfl
@[simp] theorem tyP_er (c : String) (fs : List (String × PV)) : tyP (.er c fs) = false := rfl
@[simp] theorem tyP_memo (p q : PV) : tyP (.memo p q) = false := rfl
@[simp] theorem tyP_loc (n : Nat) : tyP (.loc n) = false := rfl
@[simp] def pIsi (t : String) (p : PV) : Option PV := if tyP p then some (.bl (isTy t p)) else none
def pMax2 : PV → PV → Option PV
  | .int a, .int b => some (.int (if b > a then b else a))
  | _, _ => none
@[simp] theorem pMax2_0 (a b : Int) : pMax2 (.int a) (.int b) = some (.int (if b > a then b else a)) := rfl
def pMin2 : PV → PV → Option PV
  | .int a, .int b => some (.int (if b < a then b else a))
  | _, _ => none
@[simp] theorem pMin2_0 (a b : Int) : pMin2 (.int a) (.int b) = some (.int (if b < a then b else a)) := rfl
/-- the figures of a number -/
def numD (n : Nat) : List Nat := (Nat.toDigits 10 n).map Char.toNat
def digS (s : List Nat) : Bool := s.all fun c => decide (48 ≤ c) && decide (c ≤ 57)
def valS (s : List Nat) : Nat := s.foldl (fun acc c => acc * 10 + (c - 48)) 0
def bigI : Int := 10 ^ 200
def pStr : PV → Option PV
  | .int i => if 0 ≤ i && i < bigI then some (.str (numD i.toNat)) else none
  | _ => none
@[simp] theorem pStr_non   : pStr  .non = none := rfl
@[simp] theorem pStr_bl  (b : Bool) : pStr  (.bl b) = none := rfl
@[simp] theorem pStr_int  (i : Int) : pStr  (.int i) = (if 0 ≤ i && i < bigI then some (.str (numD i.toNat)) else none) := rfl
@[simp] theorem pStr_str  (s : List Nat) : pStr  (.str s) = none := rfl
@[simp] theorem pStr_lst  (xs : List PV) : pStr  (.lst xs) = none := rfl
@[simp] theorem pStr_tup  (xs : List PV) : pStr  (.tup xs) = none := rfl
@[simp] theorem pStr_dct  (t : Bool) (kvs : List (PV × PV)) : pStr  (.dct t kvs) = none := rfl
@[simp] theorem pStr_ob  (k : Nat) (ps : List PV) : pStr  (.ob k ps) = none := rfl
@[simp] theorem pStr_scr  (xs : List PV) : pStr  (.scr xs) = none := rfl
def pInt : PV → Option PV
  | .str s => if digS s && !s.isEmpty && s.length ≤ 600 then some (.int (valS s)) else none
  | .bl b => some (.int (if b then 1 else 0))
  | .int i => some (.int i)
  | _ => none
@[simp] theorem pInt_non   : pInt  .non = none := rfl
@[simp] theorem pInt_bl  (b : Bool) : pInt  (.bl b) = some (.int (if b then 1 else 0)) := rfl
@[simp] theorem pInt_int  (i : Int) : pInt  (.int i) = some (.int i) := rfl
@[simp] theorem pInt_str  (s : List Nat) : pInt  (.str s) = (if digS s && !s.isEmpty && s.length ≤ 600 then some (.int (valS s)) else none) := rfl
@[simp] theorem pInt_lst  (xs : List PV) : pInt  (.lst xs) = none := rfl
@[simp] theorem pInt_tup  (xs : List PV) : pInt  (.tup xs) = none := rfl
@[simp] theorem pInt_dct  (t : Bool) (kvs : List (PV × PV)) : pInt  (.dct t kvs) = none := rfl
@[simp] theorem pInt_ob  (k : Nat) (ps : List PV) : pInt  (.ob k ps) = none := rfl
@[simp] theorem pInt_scr  (xs : List PV) : pInt  (.scr xs) = none := rfl
def eFrz (f : AX) : EX := fun env => (f env).bind fun xs => .ok (.lst xs)
@[simp] theorem eFrz_app (f : AX) (env : Ev) : eFrz f env = ((f env).bind fun xs => .ok (.lst xs)) := rfl
/-- is None as an operator of two -/
def pIs2 : PV → PV → Option PV
  | p, .non => some (.bl (isNon p))
  | .bl a, .bl b => some (.bl (a == b))
  | .ob _ _, .bl _ => some (.bl false)
  | _, _ => none
@[simp] theorem pIs2_0 (p : PV) : pIs2 p .non = some (.bl (isNon p)) := by cases p <;> rfl
@[simp] theorem pIs2_1 (a b : Bool) : pIs2 (.bl a) (.bl b) = some (.bl (a == b)) := rfl
@[simp] theorem pIs2_2 (k : Nat) (ps : List PV) (b : Bool) : pIs2 (.ob k ps) (.bl b) = some (.bl false) := rfl
def pNot2 : PV → PV → Option PV
  | p, .non => some (.bl (!isNon p))
  | .bl a, .bl b => some (.bl (!(a == b)))
  | .ob _ _, .bl _ => some (.bl true)
  | _, _ => none
@[simp] theorem pNot2_0 (p : PV) : pNot2 p .non = some (.bl (!isNon p)) := by cases p <;> rfl
@[simp] theorem pNot2_1 (a b : Bool) : pNot2 (.bl a) (.bl b) = some (.bl (!(a == b))) := rfl
@[simp] theorem pNot2_2 (k : Nat) (ps : List PV) (b : Bool) : pNot2 (.ob k ps) (.bl b) = some (.bl true) := rfl
def eCB (h : List PV → Option PV) (fa : AX) : EX := fun env => (fa env).bind fun ps => ofO (h ps)
@[simp] theorem eCB_app (h : List PV → Option PV) (fa : AX) (env : Ev) : eCB h fa env = ((fa env).bind fun ps => ofO (h ps)) := rfl
def lCB (h : List PV → Option (List PV)) (fa : AX) : AX := fun env => (fa env).bind fun ps => ofO (h ps)
@[simp] theorem lCB_app (h : List PV → Option (List PV)) (fa : AX) (env : Ev) : lCB h fa env = ((fa env).bind fun ps => ofO (h ps)) := rfl
/-- one argument, two -/
@[simp] def on1 {α : Type} (h : PV → Option α) : List PV → Option α
  | [p] => h p
  | _ => none
@[simp] def on2 {α : Type} (h : PV → PV → Option α) : List PV → Option α
  | [p, q] => h p q
  | _ => none
def isOb (kd : Nat) : PV → Bool
  | .ob k _ => k == kd
  | _ => false
@[simp] theorem isOb_non (kd : Nat)  : isOb kd .non = false := rfl
@[simp] theorem isOb_bl (kd : Nat) (b : Bool) : isOb kd (.bl b) = false := rfl
@[simp] theorem isOb_int (kd : Nat) (i : Int) : isOb kd (.int i) = false := rfl
@[simp] theorem isOb_str (kd : Nat) (s : List Nat) : isOb kd (.str s) = false := rfl
@[simp] theorem isOb_lst (kd : Nat) (xs : List PV) : isOb kd (.lst xs) = false := rfl
@[simp] theorem isOb_tup (kd : Nat) (xs : List PV) : isOb kd (.tup xs) = false := rfl
@[simp] theorem isOb_dct (kd : Nat) (t : Bool) (kvs : List (PV × PV)) : isOb kd (.dct t kvs) = false := rfl
@[simp] theorem isOb_ob (kd : Nat) (k : Nat) (ps : List PV) : isOb kd (.ob k ps) = (k == kd) := rfl
@[simp] theorem isOb_scr (kd : Nat) (xs : List PV) : isOb kd (.scr xs) = false := rfl
def eMeth (kd : Nat) (m : List PV → R PV) (fo : EX) (fa : AX) : EX := fun env => (fo env).bind fun x => if isOb kd x then (fa env).bind fun ps => m (x :: ps) else .bad
@[simp] theorem eMeth_app (kd : Nat) (m : List PV → R PV) (fo : EX) (fa : AX) (env : Ev) : eMeth kd m fo fa env = ((fo env).bind fun x => if isOb kd x then (fa env).bind fun ps => m (x :: ps) else .bad) := rfl
def lMeth (kd : Nat) (m : List PV → R (List PV)) (fo : EX) (fa : AX) : AX := fun env => (fo env).bind fun x => if isOb kd x then (fa env).bind fun ps => m (x :: ps) else .bad
@[simp] theorem lMeth_app (kd : Nat) (m : List PV → R (List PV)) (fo : EX) (fa : AX) (env : Ev) : lMeth kd m fo fa env = ((fo env).bind fun x => if isOb kd x then (fa env).bind fun ps => m (x :: ps) else .bad) := rfl
/-- the place of a figure among the figures -/
def pIdx10 : PV → Option PV
  | .str [c] => if 48 ≤ c && c ≤ 57 then some (.int ((c : Int) - 48)) else none
  | _ => none
@[simp] theorem pIdx10_0 (c : Nat) : pIdx10 (.str [c]) = (if 48 ≤ c && c ≤ 57 then some (.int ((c : Int) - 48)) else none) := rfl
def sAug (h : PV → PV → Option PV) (i : Nat) (f : EX) : SX := fun env => match env[i]? with
  | some (.v p) => thenO (f env) env fun q => match h p q with | some z => .nx (env.set i (.v z)) | none => .bad
  | _ => .bad
@[simp] theorem sAug_app (h : PV → PV → Option PV) (i : Nat) (f : EX) (env : Ev) : sAug h i f env = (match env[i]? with
  | some (.v p) => thenO (f env) env fun q => match h p q with | some z => .nx (env.set i (.v z)) | none => .bad
  | _ => .bad) := rfl
def isK1 : PV → Bool
  | .int _ => true
  | .str _ => true
  | _ => false
@[simp] theorem isK1_non   : isK1  .non = false := rfl
@[simp] theorem isK1_bl  (b : Bool) : isK1  (.bl b) = false := rfl
@[simp] theorem isK1_int  (i : Int) : isK1  (.int i) = true := rfl
@[simp] theorem isK1_str  (s : List Nat) : isK1  (.str s) = true := rfl
@[simp] theorem isK1_lst  (xs : List PV) : isK1  (.lst xs) = false := rfl
@[simp] theorem isK1_tup  (xs : List PV) : isK1  (.tup xs) = false := rfl
@[simp] theorem isK1_dct  (t : Bool) (kvs : List (PV × PV)) : isK1  (.dct t kvs) = false := rfl
@[simp] theorem isK1_ob  (k : Nat) (ps : List PV) : isK1  (.ob k ps) = false := rfl
@[simp] theorem isK1_scr  (xs : List PV) : isK1  (.scr xs) = false := rfl
def isKy : Bool → PV → Bool
  | false, p => isK1 p
  | true, .tup ps => ps.all isK1
  | true, _ => false
@[simp] theorem isKy_f (p : PV) : isKy false p = isK1 p := by cases p <;> rfl
@[simp] theorem isKy_tup (ps : List PV) : isKy true (.tup ps) = ps.all isK1 := rfl
def dLk (kvs : List (PV × PV)) (p : PV) : Option PV := (kvs.find? fun kv => eqP kv.1 p).map (·.2)
def dPut (kvs : List (PV × PV)) (p v : PV) : List (PV × PV) := if (kvs.any fun kv => eqP kv.1 p) = true then kvs.map (fun kv => if eqP kv.1 p = true then (kv.1, v) else kv) else kvs ++ [(p, v)]
def pDGet : PV → PV → Option PV
  | .dct t kvs, p => if isKy t p then dLk kvs p else none
  | _, _ => none
@[simp] theorem pDGet_0 (t : Bool) (kvs : List (PV × PV)) (p : PV) : pDGet (.dct t kvs) p = (if isKy t p then dLk kvs p else none) := rfl
def pDIn : PV → PV → Option PV
  | p, .dct t kvs => if isKy t p then some (.bl (dLk kvs p).isSome) else none
  | _, _ => none
@[simp] theorem pDIn_0 (t : Bool) (kvs : List (PV × PV)) (p : PV) : pDIn p (.dct t kvs) = (if isKy t p then some (.bl (dLk kvs p).isSome) else none) := by cases p <;> rfl
def pDNin : PV → PV → Option PV
  | p, .dct t kvs => if isKy t p then some (.bl (!(dLk kvs p).isSome)) else none
  | _, _ => none
@[simp] theorem pDNin_0 (t : Bool) (kvs : List (PV × PV)) (p : PV) : pDNin p (.dct t kvs) = (if isKy t p then some (.bl (!(dLk kvs p).isSome)) else none) := by cases p <;> rfl
def pDGet1 : PV → PV → Option PV
  | .dct t kvs, p => if isKy t p then some ((dLk kvs p).getD .non) else none
  | _, _ => none
@[simp] theorem pDGet1_0 (t : Bool) (kvs : List (PV × PV)) (p : PV) : pDGet1 (.dct t kvs) p = (if isKy t p then some ((dLk kvs p).getD .non) else none) := rfl
def isDc : PV → Bool
  | .dct _ _ => true
  | _ => false
@[simp] theorem isDc_non   : isDc  .non = false := rfl
@[simp] theorem isDc_bl  (b : Bool) : isDc  (.bl b) = false := rfl
@[simp] theorem isDc_int  (i : Int) : isDc  (.int i) = false := rfl
@[simp] theorem isDc_str  (s : List Nat) : isDc  (.str s) = false := rfl
@[simp] theorem isDc_lst  (xs : List PV) : isDc  (.lst xs) = false := rfl
@[simp] theorem isDc_tup  (xs : List PV) : isDc  (.tup xs) = false := rfl
@[simp] theorem isDc_dct  (t : Bool) (kvs : List (PV × PV)) : isDc  (.dct t kvs) = true := rfl
@[simp] theorem isDc_ob  (k : Nat) (ps : List PV) : isDc  (.ob k ps) = false := rfl
@[simp] theorem isDc_scr  (xs : List PV) : isDc  (.scr xs) = false := rfl
/-- d.get(k) -/
def eGet1 (f g : EX) : EX := fun env => (f env).bind fun x => if isDc x then (g env).bind fun y => ofO (pDGet1 x y) else .bad
@[simp] theorem eGet1_app (f g : EX) (env : Ev) : eGet1 f g env = (f env).bind fun x => if isDc x then (g env).bind fun y => ofO (pDGet1 x y) else .bad := rfl
def lKeys : PV → Option (List PV)
  | .dct false kvs => some (kvs.map Prod.fst)
  | _ => none
@[simp] theorem lKeys_0 (kvs : List (PV × PV)) : lKeys (.dct false kvs) = some (kvs.map Prod.fst) := rfl
def sNewD (i : Nat) (t : Bool) : SX := fun env => .nx (env.set i (.d t []))
@[simp] theorem sNewD_app (i : Nat) (t : Bool) (env : Ev) : sNewD i t env = .nx (env.set i (.d t [])) := rfl
def sDpt (i : Nat) (fk fv : EX) : SX := fun env => match env[i]? with
  | some (.d t kvs) => thenO (fv env) env fun v => thenO (fk env) env fun k => if isKy t k && decide (kvs.length < 1000000) then .nx (env.set i (.d t (dPut kvs k v))) else .bad
  | _ => .bad
@[simp] theorem sDpt_app (i : Nat) (fk fv : EX) (env : Ev) : sDpt i fk fv env = (match env[i]? with
  | some (.d t kvs) => thenO (fv env) env fun v => thenO (fk env) env fun k => if isKy t k && decide (kvs.length < 1000000) then .nx (env.set i (.d t (dPut kvs k v))) else .bad
  | _ => .bad) := rfl
def getA (kd j : Nat) : PV → R PV
  | .ob k ps => if k = kd then ofO ps[j]? else .bad
  | _ => .bad
@[simp] theorem getA_ob (kd j k : Nat) (ps : List PV) : getA kd j (.ob k ps) = if k = kd then ofO ps[j]? else .bad := rfl
/-- a field of an object -/
def eAt (kd j : Nat) (f : EX) : EX := fun env => (f env).bind (getA kd j)
@[simp] theorem eAt_app (kd j : Nat) (f : EX) (env : Ev) : eAt kd j f env = (f env).bind (getA kd j) := rfl
/-- a field of the object in the making -/
def getF (kd : Nat) (n : String) : Option Sl → R PV
  | some (.n k fs) => if k = kd then (match fs.lookup n with | some (.v p) => .ok p | some (.d t kvs) => .ok (.dct t kvs) | none => .bad) else .bad
  | _ => .bad
@[simp] theorem getF_n (kd : Nat) (n : String) (k : Nat) (fs : List (String × FV)) : getF kd n (some (.n k fs)) = if k = kd then (match fs.lookup n with | some (.v p) => .ok p | some (.d t kvs) => .ok (.dct t kvs) | none => .bad) else .bad := rfl
def eFv (kd i : Nat) (n : String) : EX := fun env => getF kd n env[i]?
@[simp] theorem eFv_app (kd i : Nat) (n : String) (env : Ev) : eFv kd i n env = getF kd n env[i]? := rfl
/-- self.n = f, a new field -/
def sFst (kd i : Nat) (n : String) (f : EX) : SX := fun env => match env[i]? with
  | some (.n k fs) => thenO (f env) env fun p => if k = kd ∧ fs.lookup n = none ∧ fs.length < 900 then .nx (env.set i (.n k (fs ++ [(n, .v p)]))) else .bad
  | _ => .bad
@[simp] theorem sFst_app (kd i : Nat) (n : String) (f : EX) (env : Ev) : sFst kd i n f env = (match env[i]? with
  | some (.n k fs) => thenO (f env) env fun p => if k = kd ∧ fs.lookup n = none ∧ fs.length < 900 then .nx (env.set i (.n k (fs ++ [(n, .v p)]))) else .bad
  | _ => .bad) := rfl
/-- self.n = {} -/
def sFnd (kd i : Nat) (n : String) (t : Bool) : SX := fun env => match env[i]? with
  | some (.n k fs) => if k = kd ∧ fs.lookup n = none ∧ fs.length < 900 then .nx (env.set i (.n k (fs ++ [(n, .d t [])]))) else .bad
  | _ => .bad
@[simp] theorem sFnd_app (kd i : Nat) (n : String) (t : Bool) (env : Ev) : sFnd kd i n t env = (match env[i]? with
  | some (.n k fs) => if k = kd ∧ fs.lookup n = none ∧ fs.length < 900 then .nx (env.set i (.n k (fs ++ [(n, .d t [])]))) else .bad
  | _ => .bad) := rfl
def fset (n : String) (v : FV) : List (String × FV) → List (String × FV)
  | [] => []
  | (m, w) :: r => if n == m then (m, v) :: r else (m, w) :: fset n v r
@[simp] theorem fset_cons (n : String) (v : FV) (m : String) (w : FV) (r : List (String × FV)) : fset n v ((m, w) :: r) = if n == m then (m, v) :: r else (m, w) :: fset n v r := rfl
/-- self.n[k] = v -/
def sFpt (kd i : Nat) (n : String) (fk fv : EX) : SX := fun env => match env[i]? with
  | some (.n k2 fs) => (match fs.lookup n with
    | some (.d t kvs) => if k2 = kd then thenO (fv env) env fun v => thenO (fk env) env fun k => if isKy t k && decide (kvs.length < 1000000) then .nx (env.set i (.n k2 (fset n (.d t (dPut kvs k v)) fs))) else .bad else .bad
    | _ => .bad)
  | _ => .bad
@[simp] theorem sFpt_app (kd i : Nat) (n : String) (fk fv : EX) (env : Ev) : sFpt kd i n fk fv env = (match env[i]? with
  | some (.n k2 fs) => (match fs.lookup n with
    | some (.d t kvs) => if k2 = kd then thenO (fv env) env fun v => thenO (fk env) env fun k => if isKy t k && decide (kvs.length < 1000000) then .nx (env.set i (.n k2 (fset n (.d t (dPut kvs k v)) fs))) else .bad else .bad
    | _ => .bad)
  | _ => .bad) := rfl
def fvP : FV → PV
  | .v p => p
  | .d t kvs => .dct t kvs
@[simp] theorem fvP_v (p : PV) : fvP (.v p) = p := rfl
@[simp] theorem fvP_d (t : Bool) (kvs : List (PV × PV)) : fvP (.d t kvs) = .dct t kvs := rfl
/-- the object made by an __init__: its fields -/
def outI (kd : Nat) (ns : List String) : Ou → R (List PV)
  | .nx e => (match (e[0]? : Option Sl) with | some (.n k fs) => if k = kd ∧ fs.map Prod.fst = ns then .ok (fs.map fun f => fvP f.2) else .bad | _ => .bad)
  | .ex x _ => .ex x
  | _ => .bad
@[simp] theorem outI_nx (kd : Nat) (ns : List String) (e : Ev) : outI kd ns (.nx e) = (match (e[0]? : Option Sl) with | some (.n k fs) => if k = kd ∧ fs.map Prod.fst = ns then .ok (fs.map fun f => fvP f.2) else .bad | _ => .bad) := rfl
@[simp] theorem outI_ex (kd : Nat) (ns : List String) (x : PX) (e : Ev) : outI kd ns (.ex x e) = .ex x := rfl
def mkI (kd : Nat) (ns : List String) (n : Nat) (md : List Bool) (s : SX) (ps : List PV) : R (List PV) := if ps.length = md.length then outI kd ns (s (env0 n (.n kd [] :: argS md ps))) else .bad
/-- C(..) -/
def eMake (kd : Nat) (m : List PV → R (List PV)) (a : AX) : EX := fun env => (a env).bind fun ps => (m ps).bind fun fs => .ok (.ob kd fs)
@[simp] theorem eMake_app (kd : Nat) (m : List PV → R (List PV)) (a : AX) (env : Ev) : eMake kd m a env = (a env).bind fun ps => (m ps).bind fun fs => .ok (.ob kd fs) := rfl
/-- in a list -/
def pInL : PV → PV → Option PV
  | p, .lst qs => if shp p && shp (.lst qs) then some (.bl (qs.any fun z => eqP z p)) else none
  | _, _ => none
@[simp] theorem pInL_0 (p : PV) (qs : List PV) : pInL p (.lst qs) = (if shp p && shp (.lst qs) then some (.bl (qs.any fun z => eqP z p)) else none) := by cases p <;> rfl
def pNinL : PV → PV → Option PV
  | p, .lst qs => if shp p && shp (.lst qs) then some (.bl (!qs.any fun z => eqP z p)) else none
  | _, _ => none
@[simp] theorem pNinL_0 (p : PV) (qs : List PV) : pNinL p (.lst qs) = (if shp p && shp (.lst qs) then some (.bl (!qs.any fun z => eqP z p)) else none) := by cases p <;> rfl
/-- xs.extend(list of one's own or a value) -/
def sExt (i : Nat) (f : EX) : SX := fun env => match env[i]? with
  | some (.o xs) => thenO (f env) env fun p => (match p with | .lst ys => if xs.length + ys.length ≤ 1000000 then .nx (env.set i (.o (xs ++ ys))) else .bad | _ => .bad)
  | _ => .bad
@[simp] theorem sExt_app (i : Nat) (f : EX) (env : Ev) : sExt i f env = (match env[i]? with
  | some (.o xs) => thenO (f env) env fun p => (match p with | .lst ys => if xs.length + ys.length ≤ 1000000 then .nx (env.set i (.o (xs ++ ys))) else .bad | _ => .bad)
  | _ => .bad) := rfl
/-- xs[k] = v, a place that is there -/
def ixP (n : Nat) (i : Int) : Option Nat := if 0 ≤ i then (if i < n then some i.toNat else none) else if -(n : Int) ≤ i then some (i + n).toNat else none
def putAt (xs : List PV) (v k : PV) : Option (List PV) := match k with
  | .int j => (ixP xs.length j).map fun n => xs.set n v
  | _ => none
@[simp] theorem putAt_int (xs : List PV) (v : PV) (j : Int) : putAt xs v (.int j) = (ixP xs.length j).map fun n => xs.set n v := rfl
def sPut (i : Nat) (fk fv : EX) : SX := fun env => match env[i]? with
  | some (.o xs) => thenO (fv env) env fun v => thenO (fk env) env fun k => (match putAt xs v k with | some ys => .nx (env.set i (.o ys)) | none => .bad)
  | _ => .bad
@[simp] theorem sPut_app (i : Nat) (fk fv : EX) (env : Ev) : sPut i fk fv env = (match env[i]? with
  | some (.o xs) => thenO (fv env) env fun v => thenO (fk env) env fun k => (match putAt xs v k with | some ys => .nx (env.set i (.o ys)) | none => .bad)
  | _ => .bad) := rfl
/-- a list of numbers, of truths, of texts -/
def asI : List PV → Option (List Int)
  | [] => some []
  | .int i :: r => (asI r).map (i :: ·)
  | _ => none
def asB : List PV → Option (List Bool)
  | [] => some []
  | .bl i :: r => (asB r).map (i :: ·)
  | _ => none
def asS : List PV → Option (List (List Nat))
  | [] => some []
  | .str i :: r => (asS r).map (i :: ·)
  | _ => none
@[simp] theorem asI_ints : ∀ ns : List Int, asI (ns.map .int) = some ns
  | [] => rfl
  | n :: ns => by simp [asI, asI_ints ns]
@[simp] theorem asB_bls : ∀ ns : List Bool, asB (ns.map .bl) = some ns
  | [] => rfl
  | n :: ns => by simp [asB, asB_bls ns]
@[simp] theorem asS_strs : ∀ ns : List (List Nat), asS (ns.map .str) = some ns
  | [] => rfl
  | n :: ns => by simp [asS, asS_strs ns]
def itsP : PV → Option (List PV)
  | .lst xs => some xs
  | .scr xs => some xs
  | _ => none
@[simp] theorem itsP_non   : itsP  .non = none := rfl
@[simp] theorem itsP_bl  (b : Bool) : itsP  (.bl b) = none := rfl
@[simp] theorem itsP_int  (i : Int) : itsP  (.int i) = none := rfl
@[simp] theorem itsP_str  (s : List Nat) : itsP  (.str s) = none := rfl
@[simp] theorem itsP_lst  (xs : List PV) : itsP  (.lst xs) = some xs := rfl
@[simp] theorem itsP_tup  (xs : List PV) : itsP  (.tup xs) = none := rfl
@[simp] theorem itsP_dct  (t : Bool) (kvs : List (PV × PV)) : itsP  (.dct t kvs) = none := rfl
@[simp] theorem itsP_ob  (k : Nat) (ps : List PV) : itsP  (.ob k ps) = none := rfl
@[simp] theorem itsP_scr  (xs : List PV) : itsP  (.scr xs) = some xs := rfl
@[simp] def pSum (p : PV) : Option PV := (itsP p).bind fun xs => (asI xs).map fun ns => .int ns.sum
@[simp] def pAll (p : PV) : Option PV := (itsP p).bind fun xs => (asB xs).map fun ns => .bl (ns.all id)
@[simp] def pAny (p : PV) : Option PV := (itsP p).bind fun xs => (asB xs).map fun ns => .bl (ns.any id)
def maxL : List Int → Option Int
  | [] => none
  | [n] => some n
  | n :: m :: r => (maxL (m :: r)).map fun k => if k ≤ n then n else k
@[simp] def pMaxL (p : PV) : Option PV := (itsP p).bind fun xs => (asI xs).bind fun ns => (maxL ns).map .int
def isStr : PV → Bool
  | .str _ => true
  | _ => false
@[simp] theorem isStr_str (s : List Nat) : isStr (.str s) = true := rfl
def eM1 (h : PV → PV → Option PV) (f g : EX) : EX := fun env => (f env).bind fun x => if isStr x then (g env).bind fun y => ofO (h x y) else .bad
@[simp] theorem eM1_app (h : PV → PV → Option PV) (f g : EX) (env : Ev) : eM1 h f g env = (f env).bind fun x => if isStr x then (g env).bind fun y => ofO (h x y) else .bad := rfl
def lM1 (h : PV → PV → Option (List PV)) (f g : EX) : AX := fun env => (f env).bind fun x => if isStr x then (g env).bind fun y => ofO (h x y) else .bad
@[simp] theorem lM1_app (h : PV → PV → Option (List PV)) (f g : EX) (env : Ev) : lM1 h f g env = (f env).bind fun x => if isStr x then (g env).bind fun y => ofO (h x y) else .bad := rfl
def joinS (sep : List Nat) : List (List Nat) → List Nat
  | [] => []
  | [p] => p
  | p :: q :: r => p ++ (sep ++ joinS sep (q :: r))
def lenS (ys : List (List Nat)) : Nat := (ys.map List.length).sum
def pJoin : PV → PV → Option PV
  | .str a, p => (itsP p).bind fun xs => (asS xs).bind fun ys => if lenS ys + ys.length * a.length ≤ 1000000 then some (.str (joinS a ys)) else none
  | _, _ => none
@[simp] theorem pJoin_0 (a : List Nat) (xs : List PV) : pJoin (.str a) (.lst xs) = (asS xs).bind fun ys => if lenS ys + ys.length * a.length ≤ 1000000 then some (.str (joinS a ys)) else none := rfl
def pStarts : PV → PV → Option PV
  | .str a, .str b => some (.bl (decide (a.take b.length = b)))
  | _, _ => none
@[simp] theorem pStarts_0 (a b : List Nat) : pStarts (.str a) (.str b) = some (.bl (decide (a.take b.length = b))) := rfl
def pEnds : PV → PV → Option PV
  | .str a, .str b => some (.bl (decide (b.length ≤ a.length ∧ a.drop (a.length - b.length) = b)))
  | _, _ => none
@[simp] theorem pEnds_0 (a b : List Nat) : pEnds (.str a) (.str b) = some (.bl (decide (b.length ≤ a.length ∧ a.drop (a.length - b.length) = b))) := rfl
def splitS (c : Nat) : List Nat → List Nat → List (List Nat)
  | acc, [] => [acc]
  | acc, d :: r => if d = c then acc :: splitS c [] r else splitS c (acc ++ [d]) r
def lSplit : PV → PV → Option (List PV)
  | .str a, .str [c] => if c < 256 && a.length ≤ 1000000 then some ((splitS c [] a).map .str) else none
  | _, _ => none
@[simp] theorem lSplit_0 (a : List Nat) (c : Nat) : lSplit (.str a) (.str [c]) = if c < 256 && a.length ≤ 1000000 then some ((splitS c [] a).map .str) else none := rfl
def lRev : PV → Option (List PV)
  | .lst xs => some xs.reverse
  | .scr xs => some xs.reverse
  | _ => none
@[simp] theorem lRev_0 (xs : List PV) : lRev (.lst xs) = some xs.reverse := rfl
@[simp] theorem lRev_1 (xs : List PV) : lRev (.scr xs) = some xs.reverse := rfl
def rngC (lo c : Int) (n : Nat) : List PV := (List.range n).map fun k => .int (lo + (k : Nat) * c)
def stepN (a b c : Int) : Nat := if 0 < c then ((b - a + c - 1) / c).toNat else ((a - b + (-c) - 1) / (-c)).toNat
def lOp3 (h : PV → PV → PV → Option (List PV)) (f g k : EX) : AX := fun env => (f env).bind fun x => (g env).bind fun y => (k env).bind fun z => ofO (h x y z)
@[simp] theorem lOp3_app (h : PV → PV → PV → Option (List PV)) (f g k : EX) (env : Ev) : lOp3 h f g k env = (f env).bind fun x => (g env).bind fun y => (k env).bind fun z => ofO (h x y z) := rfl
def iRn3 : PV → PV → PV → Option (List PV)
  | .int a, .int b, .int c => if -1000000 ≤ a && a ≤ 1000000 && -1000000 ≤ b && b ≤ 1000000 && -1000000 ≤ c && c ≤ 1000000 && c != 0 then some (rngC a c (stepN a b c)) else none
  | _, _, _ => none
@[simp] theorem iRn3_0 (a b c : Int) : iRn3 (.int a) (.int b) (.int c) = if -1000000 ≤ a && a ≤ 1000000 && -1000000 ≤ b && b ≤ 1000000 && -1000000 ≤ c && c ≤ 1000000 && c != 0 then some (rngC a c (stepN a b c)) else none := rfl
def zipP (xs ys : List PV) : List PV := (xs.zip ys).map fun q => .tup [q.1, q.2]
def iZip : PV → PV → Option (List PV)
  | .lst xs, .lst ys => some (zipP xs ys)
  | _, _ => none
@[simp] theorem iZip_0 (xs ys : List PV) : iZip (.lst xs) (.lst ys) = some (zipP xs ys) := rfl
def minL : List Int → Option Int
  | [] => none
  | [n] => some n
  | n :: m :: r => (minL (m :: r)).map fun k => if n ≤ k then n else k
@[simp] def pMinL (p : PV) : Option PV := (itsP p).bind fun xs => (asI xs).bind fun ns => (minL ns).map .int
def bindAll : List BX → List PV → Ev → R Ev
  | [], [], env => .ok env
  | b :: bs, p :: ps, env => (b p env).bind (bindAll bs ps)
  | _, _, _ => .bad
@[simp] theorem bindAll_nil (env : Ev) : bindAll [] [] env = .ok env := rfl
@[simp] theorem bindAll_cons (b : BX) (bs : List BX) (p : PV) (ps : List PV) (env : Ev) : bindAll (b :: bs) (p :: ps) env = (b p env).bind (bindAll bs ps) := rfl
def bTup (bs : List BX) : BX := fun p env => match p with
  | .tup ps => bindAll bs ps env
  | _ => .bad
@[simp] theorem bTup_tup (bs : List BX) (ps : List PV) (env : Ev) : bTup bs (.tup ps) env = bindAll bs ps env := rfl
@[simp] def unX1 : Ou → Ou
  | .nx e => if noX e then .nx e else .bad
  | .bk e => if noX e then .bk e else .bad
  | .ct e => if noX e then .ct e else .bad
  | .rt p => .rt p
  | .rf p => .rf p
  | .rs p S => .rs p S
  | .rg p S => .rg p S
  | _ => .bad
def tryK1 (o : Ou) (h : String) (t : SX) : Ou := match o with
  | .ex x e => if subX x.cls h then (if noX e then unX1 (t e) else .bad) else .ex x e
  | o => o
@[simp] theorem tryK1_nx (e : Ev) (h : String) (t : SX) : tryK1 (.nx e) h t = .nx e := rfl
@[simp] theorem tryK1_rt (e : PV) (h : String) (t : SX) : tryK1 (.rt e) h t = .rt e := rfl
@[simp] theorem tryK1_rf (e : List PV) (h : String) (t : SX) : tryK1 (.rf e) h t = .rf e := rfl
@[simp] theorem tryK1_rs (p : PV) (S : List Cl) (h : String) (t : SX) : tryK1 (.rs p S) h t = .rs p S := rfl
@[simp] theorem tryK1_rg (p : List PV) (S : List Cl) (h : String) (t : SX) : tryK1 (.rg p S) h t = .rg p S := rfl
@[simp] theorem tryK1_bk (e : Ev) (h : String) (t : SX) : tryK1 (.bk e) h t = .bk e := rfl
@[simp] theorem tryK1_ct (e : Ev) (h : String) (t : SX) : tryK1 (.ct e) h t = .ct e := rfl
@[simp] theorem tryK1_bad (h : String) (t : SX) : tryK1 .bad h t = .bad := rfl
@[simp] theorem tryK1_ex (x : PX) (e : Ev) (h : String) (t : SX) : tryK1 (.ex x e) h t = if subX x.cls h then (if noX e then unX1 (t e) else .bad) else .ex x e := rfl
def sTry1 (s : SX) (h : String) (t : SX) : SX := fun env => tryK1 (s env) h t
@[simp] theorem sTry1_app (s : SX) (h : String) (t : SX) (env : Ev) : sTry1 s h t env = tryK1 (s env) h t := rfl
def pAdd2 : PV → PV → Option PV
  | .int a, .int b => some (.int (a + b))
  | _, _ => none
@[simp] theorem pAdd2_0 (a b : Int) : pAdd2 (.int a) (.int b) = some (.int (a + b)) := rfl
def iAny : PV → Option (List PV)
  | .lst xs => some xs
  | .scr xs => some xs
  | .str s => some (s.map fun c => .str [c])
  | .tup xs => some xs
  | _ => none
@[simp] theorem iAny_tup (xs : List PV) : iAny (.tup xs) = some xs := rfl
@[simp] theorem iAny_lst (xs : List PV) : iAny (.lst xs) = some xs := rfl
@[simp] theorem iAny_scr (xs : List PV) : iAny (.scr xs) = some xs := rfl
@[simp] theorem iAny_str (s : List Nat) : iAny (.str s) = some (s.map fun c => .str [c]) := rfl
def iTu : PV → Option (List PV)
  | .tup xs => some xs
  | _ => none
@[simp] theorem iTu_tup (xs : List PV) : iTu (.tup xs) = some xs := rfl
def cutA : PV → Option Int → Option Int → Option PV
  | .str s, a, b => if s.length ≤ 1000000 then some (.str (cutN s a b)) else none
  | .lst xs, a, b => some (.lst (cutN xs a b))
  | .scr xs, a, b => some (.lst (cutN xs a b))
  | _, _, _ => none
@[simp] theorem cutA_str (s : List Nat) (a b : Option Int) : cutA (.str s) a b = (if s.length ≤ 1000000 then some (.str (cutN s a b)) else none) := rfl
@[simp] theorem cutA_lst (xs : List PV) (a b : Option Int) : cutA (.lst xs) a b = some (.lst (cutN xs a b)) := rfl
@[simp] theorem cutA_scr (xs : List PV) (a b : Option Int) : cutA (.scr xs) a b = some (.lst (cutN xs a b)) := rfl
def eSlA (f : EX) (lo hi : OX) : EX := fun env => (f env).bind fun x => (lo env).bind fun a => (hi env).bind fun b => ofO (cutA x a b)
@[simp] theorem eSlA_app (f : EX) (lo hi : OX) (env : Ev) : eSlA f lo hi env = ((f env).bind fun x => (lo env).bind fun a => (hi env).bind fun b => ofO (cutA x a b)) := rfl
/-- the texts among the keys -/
def txKs (kvs : List (PV × PV)) : List (List Nat) := kvs.filterMap fun kv => match kv.1 with | .str s => some s | _ => none
end JP

set_option Elab.async false
set_option linter.all false
set_option maxRecDepth 100000
namespace JP
open PySem L2
/-- what is known of places for good: each by what holds of its object -/
abbrev Wd := Addr → Option (HO → Prop)
def Wle (W W' : Wd) : Prop := ∀ a f, W a = some f → W' a = some f
theorem Wle.refl (W : Wd) : Wle W W := fun _ _ h => h
theorem Wle.trans {W W1 W2 : Wd} (a : Wle W W1) (b : Wle W1 W2) : Wle W W2 := fun x f h => b x f (a x f h)
def Exa (f : HO → Prop) : Prop := ∀ o o', f o → f o' → o = o'
/-- a dict, locked or not -/
def TolF (u : HO) : HO → Prop := fun o => o = u ∨ ∃ od, o = .frz od u
def IsDk (u : HO) : Prop := (∃ ks, u = .dK ks) ∨ ∃ ks, u = .dT ks
/-- facts about what stays as it is -/
def Fx (f : HO → Prop) : Prop := Exa f ∨ ∃ u, IsDk u ∧ f = TolF u
/-- a fact about a tuple is exact -/
def Gd (f : HO → Prop) : Prop := ∀ vs, f (.tup vs) → ∀ o, f o → o = .tup vs
theorem Gd.eq (o : HO) : Gd (fun x => x = o) := fun vs h x hx => by
  have h : HO.tup vs = o := h
  rw [h]; exact hx
theorem Gd.tol {u : HO} (h : IsDk u) : Gd (TolF u) := fun vs z => by
  rcases z with z | ⟨od, z⟩
  · rcases h with ⟨ks, e⟩ | ⟨ks, e⟩ <;> rw [e] at z <;> cases z
  · cases z
theorem Gd.no {f : HO → Prop} (h : ∀ vs, ¬ f (.tup vs)) : Gd f := fun vs z => (h vs z).elim
structure Hold (W : Wd) (H : Hp) : Prop where
  there : ∀ a f, W a = some f → ∃ o, H a = some o ∧ f o
  gd : ∀ a f, W a = some f → Gd f
theorem Gd.tup {f : HO → Prop} {vs : List V} (g : Gd f) (h : f (.tup vs)) : ∀ o, f o → o = .tup vs := g vs h
/-- the fact of the cell n of the store: it tells no object but that it is none of these -/
def LocF (n : Nat) : HO → Prop := fun o => (∀ vs, o ≠ .tup vs) ∧ o ≠ .own n
theorem LocF.inj {n m : Nat} (h : LocF n = LocF m) : n = m := by
  have e : LocF n (.own n) = LocF m (.own n) := congrFun h _
  by_cases c : n = m
  · exact c
  · have q : LocF m (.own n) := ⟨fun vs z => (nomatch z), fun z => c (by injection z with z)⟩
    rw [← e] at q
    exact (q.2 rfl).elim
theorem LocF.lst {n : Nat} {vs : List V} : LocF n (.lst vs) := ⟨fun _ z => (nomatch z), fun z => (nomatch z)⟩
theorem LocF.dK {n : Nat} {ks : List (Key × V)} : LocF n (.dK ks) := ⟨fun _ z => (nomatch z), fun z => (nomatch z)⟩
theorem LocF.dT {n : Nat} {ks : List (List Key × V)} : LocF n (.dT ks) := ⟨fun _ z => (nomatch z), fun z => (nomatch z)⟩
theorem LocF.ins {n : Nat} {C dx : Addr} {fs : List (Str × V)} : LocF n (.ins C dx fs) := ⟨fun _ z => (nomatch z), fun z => (nomatch z)⟩
theorem LocF.frz {n : Nat} {od : Obj} {u : HO} : LocF n (.frz od u) := ⟨fun _ z => (nomatch z), fun z => (nomatch z)⟩
theorem LocF.gd {n : Nat} : Gd (LocF n) := fun vs z => (z.1 vs rfl).elim
theorem LocF.noEx {n : Nat} : ¬ Exa (LocF n) := fun h => by
  have := h (.lst []) (.dK []) LocF.lst LocF.dK
  cases this
theorem LocF.noFx {n : Nat} : ¬ Fx (LocF n) := fun h => by
  rcases h with h | ⟨u, h, e⟩
  · exact LocF.noEx h
  · have q : LocF n (.lst []) := LocF.lst
    rw [e] at q
    rcases q with q | ⟨od, q⟩
    · rcases h with ⟨ks, h⟩ | ⟨ks, h⟩ <;> rw [h] at q <;> cases q
    · cases q
/-- no fact of a cell -/
def Nl (f : HO → Prop) : Prop := ∀ n, f ≠ LocF n
theorem Nl.eq (o : HO) : Nl (fun x => x = o) := fun n e => LocF.noEx (n := n) (by rw [← e]; intro a b ha hb; rw [show a = o from ha, show b = o from hb])
theorem Nl.tol {u : HO} (h : IsDk u) : Nl (TolF u) := fun n e => LocF.noFx (n := n) (by rw [← e]; exact .inr ⟨u, h, rfl⟩)
theorem Nl.of {f : HO → Prop} {vs : List V} (h : ¬ f (.lst vs)) : Nl f := fun n e => h (by rw [e]; exact LocF.lst)
/-- a step; b: cells may change -/
structure Stz (b : Bool) (W : Wd) (H : Hp) (W' : Wd) (H' : Hp) : Prop where
  le : Wle W W'
  ho : Hold W' H'
  kp : ∀ a o, H a = some o → (∀ f, W a = some f → Fx f) → H' a = some o
  nw : ∀ a f, W' a = some f → W a = some f ∨ H a = none ∨ ∃ vs, H a = some (.tup vs)
  lf : ∀ a n od u, W a = some (LocF n) → H a = some (.frz od u) → H' a = some (.frz od u)
  lk : b = false → ∀ a n, W a = some (LocF n) → H' a = H a
  ll : b = false → ∀ a n, W' a = some (LocF n) → W a = some (LocF n)
abbrev Stp (W : Wd) (H : Hp) (W' : Wd) (H' : Hp) : Prop := Stz false W H W' H'
theorem Stp.refl {b : Bool} {W : Wd} {H : Hp} (h : Hold W H) : Stz b W H W H := ⟨Wle.refl W, h, fun _ _ e _ => e, fun _ _ e => .inl e, fun _ _ _ _ _ e => e, fun _ _ _ _ => rfl, fun _ _ _ e => e⟩
theorem Stz.weak {b : Bool} {W W' : Wd} {H H' : Hp} (s : Stp W H W' H') : Stz b W H W' H' := ⟨s.le, s.ho, s.kp, s.nw, s.lf, fun _ => s.lk rfl, fun _ => s.ll rfl⟩
theorem Stz.back {b : Bool} {W W' : Wd} {H H' : Hp} (hW : Hold W H) (s : Stz b W H W' H') {p : Addr} (h : H' p = none) : H p = none := by
  cases e : H p with
  | none => rfl
  | some o =>
    cases w : W p with
    | none =>
      have q := s.kp p o e (fun f z => by rw [w] at z; cases z)
      rw [h] at q; cases q
    | some f =>
      obtain ⟨o', q, _⟩ := s.ho.there p f (s.le p f w)
      rw [h] at q; cases q
/-- tuples stay -/
theorem Stz.tup {b : Bool} {W W' : Wd} {H H' : Hp} (hW : Hold W H) (s : Stz b W H W' H') {p : Addr} {vs : List V} (h : H p = some (.tup vs)) : H' p = some (.tup vs) := by
  refine s.kp p _ h fun f w => ?_
  obtain ⟨o, e, fo⟩ := hW.there p f w
  rw [h] at e
  cases e
  have := (hW.gd p f w).tup fo
  exact .inl fun a b ha hb => by rw [this a ha, this b hb]
theorem Stz.transz {b : Bool} {W W1 W2 : Wd} {H H1 H2 : Hp} (h0 : Hold W H) (a : Stz b W H W1 H1) (c : Stz b W1 H1 W2 H2) : Stz b W H W2 H2 where
  le := a.le.trans c.le
  ho := c.ho
  kp := fun x o e z => c.kp x o (a.kp x o e z) fun f q => by
    rcases a.nw x f q with n | n | ⟨vs, n⟩
    · exact z f n
    · rw [e] at n; cases n
    · rw [e] at n; cases n
      obtain ⟨o', e', fo⟩ := a.ho.there x f q
      rw [a.tup h0 e] at e'
      cases e'
      have := (a.ho.gd x f q).tup fo
      exact .inl fun c d hc hd => by rw [this c hc, this d hd]
  nw := fun x f e => by
    rcases c.nw x f e with n | n | ⟨vs, n⟩
    · exact a.nw x f n
    · exact .inr (.inl (a.back h0 n))
    · cases q : H x with
      | none => exact .inr (.inl rfl)
      | some o =>
        cases w : W x with
        | some g =>
          have := a.le x g w
          have h2 := c.le x g this
          rw [e] at h2
          cases h2
          exact .inl rfl
        | none =>
          have := a.kp x o q (fun g z => by rw [w] at z; cases z)
          rw [n] at this
          cases this
          exact .inr (.inr ⟨vs, rfl⟩)
  lf := fun x n od u e h => c.lf x n od u (a.le x _ e) (a.lf x n od u e h)
  lk := fun hb x n e => by rw [c.lk hb x n (a.le x _ e), a.lk hb x n e]
  ll := fun hb x n e => a.ll hb x n (c.ll hb x n e)
theorem Stz.trans {b : Bool} {W W1 W2 : Wd} {H H1 H2 : Hp} (h0 : Hold W H) (a : Stz b W H W1 H1) (c : Stp W1 H1 W2 H2) : Stz b W H W2 H2 := a.transz h0 c.weak
/-- W with the object o at a for good -/
def putW (W : Wd) (a : Addr) (o : HO) : Wd := fun b => if b = a then some (fun x => x = o) else W b
theorem putW_same {W : Wd} {a : Addr} {o : HO} : putW W a o a = some (fun x => x = o) := if_pos rfl
theorem putW_ne {W : Wd} {a b : Addr} {o : HO} (h : b ≠ a) : putW W a o b = W b := if_neg h
/-- W with a fact at a -/
def putP (W : Wd) (a : Addr) (f : HO → Prop) : Wd := fun b => if b = a then some f else W b
theorem putP_same {W : Wd} {a : Addr} {f : HO → Prop} : putP W a f a = some f := if_pos rfl
theorem putP_ne {W : Wd} {a b : Addr} {f : HO → Prop} (h : b ≠ a) : putP W a f b = W b := if_neg h
theorem Hold.none {W : Wd} {H : Hp} (h : Hold W H) {a : Addr} (n : H a = none) : W a = none := by
  cases w : W a with
  | none => rfl
  | some f =>
    obtain ⟨o, e, _⟩ := h.there a f w
    rw [n] at e; cases e
theorem Wle.putP {W : Wd} {a : Addr} {f : HO → Prop} (n : W a = none) : Wle W (putP W a f) := fun b g e => by
  rw [putP_ne (fun z => by rw [z, n] at e; cases e)]; exact e
theorem Wle.put {W : Wd} {a : Addr} {o : HO} (n : W a = none) : Wle W (putW W a o) := Wle.putP n
theorem Hold.putP {W : Wd} {H : Hp} (h : Hold W H) {a : Addr} {f : HO → Prop} (g : Gd f) {H' : Hp} (ha : ∃ o, H' a = some o ∧ f o) (hb : ∀ b o, b ≠ a → H b = some o → W b ≠ Option.none → H' b = some o) : Hold (putP W a f) H' where
  there := fun b k e => by
    by_cases z : b = a
    · subst z
      rw [putP_same] at e; cases e
      exact ha
    · rw [putP_ne z] at e
      obtain ⟨o, q, r⟩ := h.there b k e
      exact ⟨o, hb b o z q (by rw [e]; simp), r⟩
  gd := fun b k e => by
    by_cases z : b = a
    · subst z
      rw [putP_same] at e; cases e
      exact g
    · rw [putP_ne z] at e
      exact h.gd b k e
theorem Hold.upd0 {W : Wd} {H : Hp} (h : Hold W H) {a : Addr} {o : HO} (n : W a = Option.none) : Hold W (upd H a o) where
  there := fun b f e => by
    have hb : b ≠ a := fun z => by rw [z, n] at e; cases e
    rw [upd_ne hb]
    exact h.there b f e
  gd := h.gd
/-- a new thing, known by a fact -/
theorem Stp.newP {W : Wd} {H : Hp} (h : Hold W H) {a : Addr} {o : HO} {f : HO → Prop} (g : Gd f) (nl : Nl f) (n : H a = none) (fo : f o) : Stp W H (putP W a f) (upd H a o) where
  le := Wle.putP (h.none n)
  ho := h.putP g ⟨o, upd_same, fo⟩ fun b u hb e _ => by rw [upd_ne hb]; exact e
  kp := fun b u e _ => by rw [upd_ne (ne_of_none e n)]; exact e
  nw := fun b k e => by
    by_cases hb : b = a
    · subst hb; exact .inr (.inl n)
    · rw [putP_ne hb] at e; exact .inl e
  lf := fun b n' od u e q => by
    rw [upd_ne fun z => by rw [z, n] at q; cases q]
    exact q
  lk := fun _ b n' e => upd_ne fun z => by
    rw [z] at e
    obtain ⟨u, q, _⟩ := h.there a _ e
    rw [n] at q; cases q
  ll := fun _ b n' e => by
    by_cases hb : b = a
    · subst hb
      rw [putP_same] at e
      exact (nl n' (Option.some.inj e)).elim
    · rw [putP_ne hb] at e; exact e
/-- a new object, for good -/
theorem Stp.new {W : Wd} {H : Hp} (h : Hold W H) {a : Addr} {o : HO} (n : H a = none) : Stp W H (putW W a o) (upd H a o) := Stp.newP h (Gd.eq o) (Nl.eq o) n rfl
/-- a new object, not for good -/
theorem Stp.new0 {W : Wd} {H : Hp} (h : Hold W H) {a : Addr} {o : HO} (n : H a = none) : Stp W H W (upd H a o) where
  le := Wle.refl W
  ho := h.upd0 (h.none n)
  kp := fun b u e _ => by rw [upd_ne (ne_of_none e n)]; exact e
  nw := fun b f e => .inl e
  lf := fun b n' od u e q => by
    rw [upd_ne fun z => by rw [z, n] at q; cases q]
    exact q
  lk := fun _ b n' e => upd_ne fun z => by
    rw [z] at e
    obtain ⟨u, q, _⟩ := h.there a _ e
    rw [n] at q; cases q
  ll := fun _ b n' e => e
/-- a tuple that stands becomes known -/
theorem Stp.seen {W : Wd} {H : Hp} (h : Hold W H) {a : Addr} {vs : List V} (e : H a = some (.tup vs)) : ∃ W', Stp W H W' H ∧ ∃ f, W' a = some f ∧ ∀ o, f o → o = .tup vs := by
  cases w : W a with
  | some f =>
    obtain ⟨o, q, fo⟩ := h.there a f w
    rw [e] at q
    cases q
    exact ⟨W, Stp.refl h, f, w, (h.gd a f w).tup fo⟩
  | none =>
    refine ⟨putW W a (.tup vs), ⟨Wle.put w, h.putP (Gd.eq _) ⟨_, e, rfl⟩ fun b u _ q _ => q, fun _ _ q _ => q, fun b f q => ?_, fun _ _ _ _ _ q => q, fun _ _ _ _ => rfl, fun _ b n q => ?_⟩, _, putW_same, fun _ z => z⟩
    · by_cases hb : b = a
      · subst hb
        exact .inr (.inr ⟨vs, e⟩)
      · rw [putW_ne hb] at q
        exact .inl q
    · by_cases hb : b = a
      · subst hb
        rw [putW_same] at q
        exact (Nl.eq _ n (Option.some.inj q)).elim
      · rw [putW_ne hb] at q
        exact q

/-- the objects of the text (class, names of the fields), the classes of errors -/
structure ObS where
  K : PySem.W.Frag
  cl : String → Option Addr
  oc : Nat → Addr
  on : Nat → List Str
  mf : PV → List Nat → List Nat → Option Bool
def tx (s : List Nat) : Str := ⟨s.toArray⟩
theorem tx_inj {s t : List Nat} (h : tx s = tx t) : s = t := by
  have e : s.toArray = t.toArray := congrArg Str.cps h
  simpa using congrArg Array.toList e
theorem tx_len (s : List Nat) : (tx s).length = s.length := by simp [tx, Str.length]
theorem tx_app (s t : List Nat) : tx s ++ tx t = tx (s ++ t) := by
  show Str.append (tx s) (tx t) = tx (s ++ t)
  simp [tx, Str.append]
abbrev okS (s : List Nat) : Prop := ∀ c ∈ s, c < 1114112
def Rdl (o : HO) (vs : List V) : Prop := o = .lst vs ∨ ∃ ob, o = .frz ob (.lst vs)
def ScR (O : ObS) (W : Wd) (a : Addr) (vs : List V) : Prop := (∃ f, W a = some f ∧ ∀ o, f o → Rdl o vs) ∨ SqL O.K (fun _ => none) a vs
def LsR (O : ObS) (W : Wd) (a : Addr) (vs : List V) : Prop := ∃ f, W a = some f ∧ ∀ o, f o → o = .lst vs
def TuR (O : ObS) (W : Wd) (a : Addr) (vs : List V) : Prop := ∃ f, W a = some f ∧ ∀ o, f o → o = .tup vs
theorem ScR.sq {O : ObS} {W : Wd} {H : Hp} {a : Addr} {vs : List V} (r : ScR O W a vs) (h : Hold W H) : SqL O.K H a vs := by
  rcases r with ⟨f, e, k⟩ | r
  · obtain ⟨o, q, z⟩ := h.there a f e
    rcases k o z with y | ⟨ob, y⟩
    · exact .inl (.inl (by rw [q, y]))
    · exact .inl (.inr ⟨ob, by rw [q, y]⟩)
  · rcases r with (r | ⟨o, r⟩) | r
    · cases r
    · cases r
    · exact .inr r
theorem LsR.at {O : ObS} {W : Wd} {H : Hp} {a : Addr} {vs : List V} (r : LsR O W a vs) (h : Hold W H) : H a = some (.lst vs) := by
  obtain ⟨f, e, k⟩ := r
  obtain ⟨o, q, z⟩ := h.there a f e
  rw [q, k o z]
theorem LsR.sq {O : ObS} {W : Wd} {H : Hp} {a : Addr} {vs : List V} (r : LsR O W a vs) (h : Hold W H) : SqL O.K H a vs := SqL.of (r.at h)
theorem LsR.mono {O : ObS} {W W' : Wd} {a : Addr} {vs : List V} (w : Wle W W') (r : LsR O W a vs) : LsR O W' a vs := by
  obtain ⟨f, e, k⟩ := r
  exact ⟨f, w a f e, k⟩
theorem ScR.mono {O : ObS} {W W' : Wd} {a : Addr} {vs : List V} (w : Wle W W') (r : ScR O W a vs) : ScR O W' a vs := by
  rcases r with ⟨f, e, k⟩ | r
  · exact .inl ⟨f, w a f e, k⟩
  · exact .inr r
theorem TuR.sq {O : ObS} {W : Wd} {H : Hp} {a : Addr} {vs : List V} (r : TuR O W a vs) (h : Hold W H) : H a = some (.tup vs) := by
  obtain ⟨f, e, k⟩ := r
  obtain ⟨o, q, z⟩ := h.there a f e
  rw [q, k o z]
/-- an error that was caught, by its class and its dict -/
def ErO (a : Addr) (cls : Value) (d : Option Addr) : HO := .ext fun h => ∃ (oe : Obj) (vs : Array Value), h.get? a = some oe ∧ Zc cls d oe ∧ oe.data = .fields vs
/-- answers that are kept: of two texts each -/
def MemOk (O : ObS) (p : PV) (kvs : List (PV × PV)) (ks : List (List Key × V)) : Prop :=
  kvs.length ≤ 900 ∧ (ks.map Prod.fst).Nodup ∧ ∀ k v, (k, v) ∈ ks → ∃ l r b, k = [.inr (tx l), .inr (tx r)] ∧ l ∈ txKs kvs ∧ r ∈ txKs kvs ∧ O.mf p l r = some b ∧ v = .bl b
/-- a key of a dict -/
def kRep : PV → Key → Prop
  | .int i, k => k = .inl i
  | .str s, k => k = .inr (tx s) ∧ okS s
  | _, _ => False
def kRepL : List PV → List Key → Prop
  | [], ks => ks = []
  | p :: ps, ks => ∃ k r, ks = k :: r ∧ kRep p k ∧ kRepL ps r
def tRep : PV → List Key → Prop
  | .tup ps, ks => kRepL ps ks
  | _, _ => False
mutual
def Rep (O : ObS) (W : Wd) : PV → V → Prop
  | .non, v => v = .non
  | .bl b, v => v = .bl b
  | .int i, v => v = .int i
  | .str s, v => v = .str (tx s) ∧ okS s
  | .lst ps, v => ∃ a vs, v = .ref a ∧ LsR O W a vs ∧ RepL O W ps vs
  | .tup ps, v => ∃ a vs, v = .ref a ∧ TuR O W a vs ∧ RepL O W ps vs
  | .dct t kvs, v => ∃ a f, v = .ref a ∧ W a = some f ∧ ((t = false ∧ ∃ ks, f = TolF (.dK ks) ∧ RepK O W kvs ks) ∨ (t = true ∧ ∃ ks, f = TolF (.dT ks) ∧ RepT O W kvs ks))
  | .ob k ps, v => ∃ a dx vs, v = .ref a ∧ W a = some (fun o => o = .ins (O.oc k) dx ((O.on k).zip vs)) ∧ W dx = some (fun o => o = .own a) ∧ vs.length = (O.on k).length ∧ RepL O W ps vs
  | .scr ps, v => ∃ a vs, v = .ref a ∧ ScR O W a vs ∧ RepL O W ps vs
  | .er c fs, v => ∃ a cls d, v = .ref a ∧ W a = some (fun o => o = ErO a cls d) ∧ ∃ C, O.cl c = some C ∧ cls = .ref C ∧ ((fs = [] ∧ d = none) ∨ ∃ dd fv, d = some dd ∧ W dd = some (fun x => x = .xd fv) ∧ RepX O W fs fv)
  | .memo p q, v => ∃ a kvs, v = .ref a ∧ q = .dct false kvs ∧ W a = some (fun o => ∃ ks, o = .dT ks ∧ MemOk O p kvs ks)
  | .loc n, v => ∃ a, v = .ref a ∧ W a = some (LocF n)
def RepL (O : ObS) (W : Wd) : List PV → List V → Prop
  | [], vs => vs = []
  | p :: ps, vs => ∃ v r, vs = v :: r ∧ Rep O W p v ∧ RepL O W ps r
def RepK (O : ObS) (W : Wd) : List (PV × PV) → List (Key × V) → Prop
  | [], ks => ks = []
  | (q, p) :: ps, ks => ∃ k v r, ks = (k, v) :: r ∧ kRep q k ∧ Rep O W p v ∧ RepK O W ps r
def RepT (O : ObS) (W : Wd) : List (PV × PV) → List (List Key × V) → Prop
  | [], ks => ks = []
  | (q, p) :: ps, ks => ∃ k v r, ks = (k, v) :: r ∧ tRep q k ∧ Rep O W p v ∧ RepT O W ps r
def RepX (O : ObS) (W : Wd) : List (String × PV) → List (Str × V) → Prop
  | [], _ => True
  | (n, p) :: ps, fv => (∃ v, fv.lookup (PySem.Str.ofString n) = some v ∧ Rep O W p v) ∧ RepX O W ps fv
end
mutual
theorem Rep.mono {O : ObS} {W W' : Wd} (w : Wle W W') : ∀ (p : PV) {v : V}, Rep O W p v → Rep O W' p v
  | .non, _, h => by simpa only [Rep] using h
  | .bl _, _, h => by simpa only [Rep] using h
  | .int _, _, h => by simpa only [Rep] using h
  | .str _, _, h => by simpa only [Rep] using h
  | .lst ps, _, h => by
    simp only [Rep] at h ⊢
    obtain ⟨a, vs, e, l, r⟩ := h
    exact ⟨a, vs, e, l.mono w, RepL.mono w ps r⟩
  | .tup ps, _, h => by
    simp only [Rep] at h ⊢
    obtain ⟨a, vs, e, ⟨f, l, k⟩, r⟩ := h
    exact ⟨a, vs, e, ⟨f, w a f l, k⟩, RepL.mono w ps r⟩
  | .dct t kvs, _, h => by
    simp only [Rep] at h ⊢
    obtain ⟨a, f, e, n, l⟩ := h
    refine ⟨a, f, e, w a f n, ?_⟩
    rcases l with ⟨ht, ks, l1, l2⟩ | ⟨ht, ks, l1, l2⟩
    · exact .inl ⟨ht, ks, l1, RepK.mono w kvs l2⟩
    · exact .inr ⟨ht, ks, l1, RepT.mono w kvs l2⟩
  | .ob k ps, _, h => by
    simp only [Rep] at h ⊢
    obtain ⟨a, dx, vs, e, l1, l2, l3, r⟩ := h
    exact ⟨a, dx, vs, e, w _ _ l1, w _ _ l2, l3, RepL.mono w ps r⟩
  | .scr ps, _, h => by
    simp only [Rep] at h ⊢
    obtain ⟨a, vs, e, l, r⟩ := h
    exact ⟨a, vs, e, l.mono w, RepL.mono w ps r⟩
  | .er c fs, _, h => by
    simp only [Rep] at h ⊢
    obtain ⟨a, cls, d, e, l, C, h1, h2, h3⟩ := h
    refine ⟨a, cls, d, e, w _ _ l, C, h1, h2, ?_⟩
    rcases h3 with h3 | ⟨dd, fv, h3, h4, h5⟩
    · exact .inl h3
    · exact .inr ⟨dd, fv, h3, w _ _ h4, RepX.mono w fs h5⟩
  | .memo p q, _, h => by
    simp only [Rep] at h ⊢
    obtain ⟨a, kvs, e, h1, h2⟩ := h
    exact ⟨a, kvs, e, h1, w _ _ h2⟩
  | .loc n, _, h => by
    simp only [Rep] at h ⊢
    obtain ⟨a, e, h1⟩ := h
    exact ⟨a, e, w _ _ h1⟩
theorem RepL.mono {O : ObS} {W W' : Wd} (w : Wle W W') : ∀ (ps : List PV) {vs : List V}, RepL O W ps vs → RepL O W' ps vs
  | [], _, h => by simpa only [RepL] using h
  | p :: ps, _, h => by
    simp only [RepL] at h ⊢
    obtain ⟨v, r, e, h1, h2⟩ := h
    exact ⟨v, r, e, Rep.mono w p h1, RepL.mono w ps h2⟩
theorem RepK.mono {O : ObS} {W W' : Wd} (w : Wle W W') : ∀ (ps : List (PV × PV)) {ks : List (Key × V)}, RepK O W ps ks → RepK O W' ps ks
  | [], _, h => by simpa only [RepK] using h
  | (q, p) :: ps, _, h => by
    simp only [RepK] at h ⊢
    obtain ⟨k, v, r, e, h1, h2, h3⟩ := h
    exact ⟨k, v, r, e, h1, Rep.mono w p h2, RepK.mono w ps h3⟩
theorem RepT.mono {O : ObS} {W W' : Wd} (w : Wle W W') : ∀ (ps : List (PV × PV)) {ks : List (List Key × V)}, RepT O W ps ks → RepT O W' ps ks
  | [], _, h => by simpa only [RepT] using h
  | (q, p) :: ps, _, h => by
    simp only [RepT] at h ⊢
    obtain ⟨k, v, r, e, h1, h2, h3⟩ := h
    exact ⟨k, v, r, e, h1, Rep.mono w p h2, RepT.mono w ps h3⟩
theorem RepX.mono {O : ObS} {W W' : Wd} (w : Wle W W') : ∀ (ps : List (String × PV)) {fv : List (Str × V)}, RepX O W ps fv → RepX O W' ps fv
  | [], _, _ => by simp only [RepX]
  | (n, p) :: ps, _, h => by
    simp only [RepX] at h ⊢
    obtain ⟨⟨v, e, h1⟩, h2⟩ := h
    exact ⟨⟨v, e, Rep.mono w p h1⟩, RepX.mono w ps h2⟩
end
theorem RepX.cons {O : ObS} {W : Wd} {n : String} {p : PV} {ps : List (String × PV)} {fv : List (Str × V)} {v : V} (e : fv.lookup (PySem.Str.ofString n) = some v) (h : Rep O W p v) (t : RepX O W ps fv) : RepX O W ((n, p) :: ps) fv := by
  simp only [RepX]
  exact ⟨⟨v, e, h⟩, t⟩
theorem RepX.nil {O : ObS} {W : Wd} {fv : List (Str × V)} : RepX O W [] fv := by simp only [RepX]
theorem RepX.look {O : ObS} {W : Wd} : ∀ {ps : List (String × PV)} {fv : List (Str × V)} {f : String} {p : PV}, RepX O W ps fv → ps.lookup f = some p → ∃ v, fv.lookup (PySem.Str.ofString f) = some v ∧ Rep O W p v
  | [], _, _, _, _, e => by cases e
  | (n, q) :: ps, fv, f, p, h, e => by
    simp only [RepX] at h
    obtain ⟨⟨v, e1, h1⟩, h2⟩ := h
    rw [List.lookup_cons] at e
    cases hb : f == n with
    | true =>
      rw [hb] at e
      cases e
      rw [eq_of_beq hb]
      exact ⟨v, e1, h1⟩
    | false =>
      rw [hb] at e
      exact RepX.look h2 e
/-- the dict at a, by its content -/
def DctO (O : ObS) (W : Wd) (H : Hp) (t : Bool) (kvs : List (PV × PV)) (a : Addr) : Prop := (t = false ∧ ∃ ks, H a = some (.dK ks) ∧ RepK O W kvs ks) ∨ (t = true ∧ ∃ ks, H a = some (.dT ks) ∧ RepT O W kvs ks)
theorem DctO.mono {O : ObS} {W W' : Wd} {H H' : Hp} {t : Bool} {kvs : List (PV × PV)} {a : Addr} (w : Wle W W') (h : H' a = H a) (d : DctO O W H t kvs a) : DctO O W' H' t kvs a := by
  rcases d with ⟨ht, ks, e, r⟩ | ⟨ht, ks, e, r⟩
  · exact .inl ⟨ht, ks, by rw [h]; exact e, r.mono w⟩
  · exact .inr ⟨ht, ks, by rw [h]; exact e, r.mono w⟩
theorem DctO.has {O : ObS} {W : Wd} {H : Hp} {t : Bool} {kvs : List (PV × PV)} {a : Addr} (d : DctO O W H t kvs a) : ∃ o, H a = some o ∧ ∀ H', H' a = some o → DctO O W H' t kvs a := by
  rcases d with ⟨ht, ks, e, r⟩ | ⟨ht, ks, e, r⟩
  · exact ⟨_, e, fun H' e' => .inl ⟨ht, ks, e', r⟩⟩
  · exact ⟨_, e, fun H' e' => .inr ⟨ht, ks, e', r⟩⟩
/-- .. locked or not -/
def DctR (O : ObS) (W : Wd) (H : Hp) (t : Bool) (kvs : List (PV × PV)) (a : Addr) : Prop := (t = false ∧ ∃ ks, Rd H a (.dK ks) ∧ RepK O W kvs ks) ∨ (t = true ∧ ∃ ks, Rd H a (.dT ks) ∧ RepT O W kvs ks)
theorem DctO.rd {O : ObS} {W : Wd} {H : Hp} {t : Bool} {kvs : List (PV × PV)} {a : Addr} (d : DctO O W H t kvs a) : DctR O W H t kvs a := by
  rcases d with ⟨ht, ks, e, r⟩ | ⟨ht, ks, e, r⟩
  · exact .inl ⟨ht, ks, .inl e, r⟩
  · exact .inr ⟨ht, ks, .inl e, r⟩
theorem Rd.has {H : Hp} {a : Addr} {u : HO} (r : Rd H a u) : ∃ o, H a = some o ∧ TolF u o := by
  rcases r with e | ⟨od, e⟩
  · exact ⟨_, e, .inl rfl⟩
  · exact ⟨_, e, .inr ⟨od, rfl⟩⟩
theorem Rd.of {H : Hp} {a : Addr} {u o : HO} (e : H a = some o) (t : TolF u o) : Rd H a u := by
  rcases t with rfl | ⟨od, rfl⟩
  · exact .inl e
  · exact .inr ⟨od, e⟩
theorem DctR.mono {O : ObS} {W W' : Wd} {H H' : Hp} {t : Bool} {kvs : List (PV × PV)} {a : Addr} (w : Wle W W') (h : H' a = H a) (d : DctR O W H t kvs a) : DctR O W' H' t kvs a := by
  rcases d with ⟨ht, ks, e, r⟩ | ⟨ht, ks, e, r⟩
  · obtain ⟨o, q, z⟩ := Rd.has e
    exact .inl ⟨ht, ks, Rd.of (by rw [h]; exact q) z, r.mono w⟩
  · obtain ⟨o, q, z⟩ := Rd.has e
    exact .inr ⟨ht, ks, Rd.of (by rw [h]; exact q) z, r.mono w⟩
theorem DctR.has {O : ObS} {W : Wd} {H : Hp} {t : Bool} {kvs : List (PV × PV)} {a : Addr} (d : DctR O W H t kvs a) : ∃ o, H a = some o ∧ (∀ vs, o ≠ .tup vs) ∧ ∀ H', H' a = some o → DctR O W H' t kvs a := by
  rcases d with ⟨ht, ks, e, r⟩ | ⟨ht, ks, e, r⟩
  · obtain ⟨o, q, z⟩ := Rd.has e
    refine ⟨o, q, fun vs y => ?_, fun H' e' => .inl ⟨ht, ks, Rd.of e' z, r⟩⟩
    rw [y] at z
    rcases z with z | ⟨od, z⟩ <;> cases z
  · obtain ⟨o, q, z⟩ := Rd.has e
    refine ⟨o, q, fun vs y => ?_, fun H' e' => .inr ⟨ht, ks, Rd.of e' z, r⟩⟩
    rw [y] at z
    rcases z with z | ⟨od, z⟩ <;> cases z
theorem DctO.ntup {O : ObS} {W : Wd} {H : Hp} {t : Bool} {kvs : List (PV × PV)} {a : Addr} (d : DctO O W H t kvs a) : ∃ o, H a = some o ∧ ∀ vs, o ≠ .tup vs := by
  rcases d with ⟨ht, ks, e, r⟩ | ⟨ht, ks, e, r⟩
  · exact ⟨_, e, fun vs z => by cases z⟩
  · exact ⟨_, e, fun vs z => by cases z⟩
section
variable {O : ObS} {W W' : Wd} {H : Hp} {p : PV} {ps qs : List PV} {v : V} {vs ws : List V}
theorem RepL.cons (h : Rep O W p v) (t : RepL O W ps vs) : RepL O W (p :: ps) (v :: vs) := by
  simp only [RepL]
  exact ⟨v, vs, rfl, h, t⟩
theorem RepL.nil : RepL O W [] [] := by simp only [RepL]
theorem RepL.cons_iff : RepL O W (p :: ps) (v :: vs) ↔ Rep O W p v ∧ RepL O W ps vs := by
  constructor
  · intro h
    simp only [RepL] at h
    obtain ⟨_, _, e, a, b⟩ := h
    cases e
    exact ⟨a, b⟩
  · exact fun ⟨a, b⟩ => RepL.cons a b
theorem RepL.of_nil (h : RepL O W [] vs) : vs = [] := by simpa only [RepL] using h
theorem RepL.len : ∀ {ps : List PV} {vs : List V}, RepL O W ps vs → ps.length = vs.length
  | [], _, h => by rw [h.of_nil]; rfl
  | p :: ps, [], h => by simp only [RepL] at h; obtain ⟨_, _, e, _⟩ := h; cases e
  | p :: ps, v :: vs, h => by
    have := (RepL.cons_iff.mp h).2.len
    simp [this]
theorem RepL.get : ∀ {ps : List PV} {vs : List V} {i : Nat} {p : PV}, RepL O W ps vs → ps[i]? = some p → ∃ v, vs[i]? = some v ∧ Rep O W p v
  | [], _, _, _, _, e => by simp at e
  | q :: ps, [], _, _, h, _ => by simp only [RepL] at h; obtain ⟨_, _, e, _⟩ := h; cases e
  | q :: ps, v :: vs, 0, p, h, e => by
    simp at e; subst e
    exact ⟨v, rfl, (RepL.cons_iff.mp h).1⟩
  | q :: ps, v :: vs, i + 1, p, h, e => by
    obtain ⟨w, a, b⟩ := (RepL.cons_iff.mp h).2.get (i := i) (p := p) (by simpa using e)
    exact ⟨w, by simpa using a, b⟩
theorem RepL.app : ∀ {ps : List PV} {vs : List V}, RepL O W ps vs → RepL O W qs ws → RepL O W (ps ++ qs) (vs ++ ws)
  | [], vs, h, t => by rw [h.of_nil]; exact t
  | p :: ps, [], h, _ => by simp only [RepL] at h; obtain ⟨_, _, e, _⟩ := h; cases e
  | p :: ps, v :: vs, h, t => RepL.cons (RepL.cons_iff.mp h).1 ((RepL.cons_iff.mp h).2.app t)
theorem RepL.take : ∀ {ps : List PV} {vs : List V} (n : Nat), RepL O W ps vs → RepL O W (ps.take n) (vs.take n)
  | _, _, 0, _ => by simp only [List.take_zero]; exact RepL.nil
  | [], vs, n + 1, h => by rw [h.of_nil]; simp only [List.take_nil]; exact RepL.nil
  | p :: ps, [], _, h => by simp only [RepL] at h; obtain ⟨_, _, e, _⟩ := h; cases e
  | p :: ps, v :: vs, n + 1, h => by
    simp only [List.take_succ_cons]
    exact RepL.cons (RepL.cons_iff.mp h).1 ((RepL.cons_iff.mp h).2.take n)
theorem RepL.drop : ∀ {ps : List PV} {vs : List V} (n : Nat), RepL O W ps vs → RepL O W (ps.drop n) (vs.drop n)
  | _, _, 0, h => by simpa only [List.drop_zero] using h
  | [], vs, n + 1, h => by rw [h.of_nil]; simp only [List.drop_nil]; exact RepL.nil
  | p :: ps, [], _, h => by simp only [RepL] at h; obtain ⟨_, _, e, _⟩ := h; cases e
  | p :: ps, v :: vs, n + 1, h => by
    simp only [List.drop_succ_cons]
    exact (RepL.cons_iff.mp h).2.drop n
theorem Rep.int_iff {i : Int} : Rep O W (.int i) v ↔ v = .int i := by simp only [Rep]
theorem Rep.bl_iff {b : Bool} : Rep O W (.bl b) v ↔ v = .bl b := by simp only [Rep]
theorem Rep.non_iff : Rep O W .non v ↔ v = .non := by simp only [Rep]
theorem Rep.str_iff {s : List Nat} : Rep O W (.str s) v ↔ v = .str (tx s) ∧ okS s := by simp only [Rep]
theorem Rep.lst_iff : Rep O W (.lst ps) v ↔ ∃ a vs, v = .ref a ∧ LsR O W a vs ∧ RepL O W ps vs := by simp only [Rep]
theorem Rep.scr_iff : Rep O W (.scr ps) v ↔ ∃ a vs, v = .ref a ∧ ScR O W a vs ∧ RepL O W ps vs := by simp only [Rep]
theorem Rep.dct_iff {t : Bool} {kvs : List (PV × PV)} : Rep O W (.dct t kvs) v ↔ ∃ a f, v = .ref a ∧ W a = some f ∧ ((t = false ∧ ∃ ks, f = TolF (.dK ks) ∧ RepK O W kvs ks) ∨ (t = true ∧ ∃ ks, f = TolF (.dT ks) ∧ RepT O W kvs ks)) := by simp only [Rep]
theorem Rep.ob_iff {k : Nat} : Rep O W (.ob k ps) v ↔ ∃ a dx vs, v = .ref a ∧ W a = some (fun o => o = .ins (O.oc k) dx ((O.on k).zip vs)) ∧ W dx = some (fun o => o = .own a) ∧ vs.length = (O.on k).length ∧ RepL O W ps vs := by simp only [Rep]
theorem Rep.dctO {t : Bool} {kvs : List (PV × PV)} (h : Hold W H) (r : Rep O W (.dct t kvs) v) : ∃ a, v = .ref a ∧ DctR O W H t kvs a := by
  obtain ⟨a, f, e, w, c⟩ := Rep.dct_iff.mp r
  obtain ⟨o, ho, fo⟩ := h.there a f w
  rcases c with ⟨ht, ks, c1, c2⟩ | ⟨ht, ks, c1, c2⟩
  · exact ⟨a, e, .inl ⟨ht, ks, Rd.of ho (by rw [← c1]; exact fo), c2⟩⟩
  · exact ⟨a, e, .inr ⟨ht, ks, Rd.of ho (by rw [← c1]; exact fo), c2⟩⟩
theorem Rep.tup_iff : Rep O W (.tup ps) v ↔ ∃ a vs, v = .ref a ∧ TuR O W a vs ∧ RepL O W ps vs := by simp only [Rep]
/-- a place of one's own, or a cell -/
def Lo (W : Wd) (a : Addr) : Prop := W a = none ∨ ∃ n, W a = some (LocF n)
def LoQ (b : Bool) (W : Wd) (a : Addr) : Prop := W a = none ∨ (b = false ∧ ∃ n, W a = some (LocF n))
/-- a value, or a list, a dict of somebody's own -/
def RepB (O : ObS) (W : Wd) (H : Hp) (p : PV) (x : V) : Prop := Rep O W p x ∨ (∃ a vs ps, p = .lst ps ∧ x = .ref a ∧ H a = some (.lst vs) ∧ Lo W a ∧ RepL O W ps vs) ∨ ∃ a t kvs, p = .dct t kvs ∧ x = .ref a ∧ W a = none ∧ DctR O W H t kvs a
/-- .. that stands from the entry on -/
def RepQ (b : Bool) (O : ObS) (W0 : Wd) (H0 : Hp) (W : Wd) (p : PV) (x : V) : Prop := Rep O W p x ∨ (∃ a vs ps, p = .lst ps ∧ x = .ref a ∧ H0 a = some (.lst vs) ∧ LoQ b W0 a ∧ RepL O W ps vs) ∨ ∃ a t kvs, p = .dct t kvs ∧ x = .ref a ∧ W0 a = none ∧ DctR O W H0 t kvs a
theorem RepQ.mono {b : Bool} {W0 : Wd} {H0 : Hp} {x : V} (w : Wle W W') (r : RepQ b O W0 H0 W p x) : RepQ b O W0 H0 W' p x := by
  rcases r with r | ⟨a, vs, ps, e1, e2, e3, e4, e5⟩ | ⟨a, t, kvs, e1, e2, e3, e4⟩
  · exact .inl (r.mono w)
  · exact .inr (.inl ⟨a, vs, ps, e1, e2, e3, e4, e5.mono w⟩)
  · exact .inr (.inr ⟨a, t, kvs, e1, e2, e3, e4.mono w rfl⟩)
theorem Stz.own {b : Bool} {W W' : Wd} {H H' : Hp} (s : Stz b W H W' H') {a : Addr} {o : HO} (h : H a = some o) (n : W a = none) (nt : ∀ vs, o ≠ .tup vs := by intro vs z; cases z) : H' a = some o ∧ W' a = none := by
  refine ⟨s.kp a o h (fun f e => by rw [n] at e; cases e), ?_⟩
  cases e : W' a with
  | none => rfl
  | some f =>
    rcases s.nw a f e with z | z | ⟨vs, z⟩
    · rw [n] at z; cases z
    · rw [h] at z; cases z
    · rw [h] at z
      exact (nt vs (Option.some.inj z)).elim
theorem Stz.ownQ {b : Bool} {W W' : Wd} {H H' : Hp} (s : Stz b W H W' H') {a : Addr} {o : HO} (h : H a = some o) (n : LoQ b W a) (nt : ∀ vs, o ≠ .tup vs := by intro vs z; cases z) : H' a = some o ∧ LoQ b W' a := by
  rcases n with n | ⟨hb, m, n⟩
  · obtain ⟨q1, q2⟩ := s.own h n nt
    exact ⟨q1, .inl q2⟩
  · exact ⟨by rw [s.lk hb a m n, h], .inr ⟨hb, m, s.le _ _ n⟩⟩
theorem Lo.q {W : Wd} {a : Addr} (n : Lo W a) : LoQ false W a := by
  rcases n with n | ⟨m, n⟩
  · exact .inl n
  · exact .inr ⟨rfl, m, n⟩
theorem LoQ.lo {b : Bool} {W : Wd} {a : Addr} (n : LoQ b W a) : Lo W a := by
  rcases n with n | ⟨_, m, n⟩
  · exact .inl n
  · exact .inr ⟨m, n⟩
theorem Stz.ownL {W W' : Wd} {H H' : Hp} (s : Stp W H W' H') {a : Addr} {o : HO} (h : H a = some o) (n : Lo W a) (nt : ∀ vs, o ≠ .tup vs := by intro vs z; cases z) : H' a = some o ∧ Lo W' a :=
  let ⟨q1, q2⟩ := s.ownQ h n.q nt
  ⟨q1, q2.lo⟩
theorem DctO.own {b : Bool} {H' : Hp} {t : Bool} {kvs : List (PV × PV)} {a : Addr} (s : Stz b W H W' H') (d : DctO O W H t kvs a) (n : W a = none) : DctO O W' H' t kvs a ∧ W' a = none := by
  obtain ⟨o, e, nt⟩ := d.ntup
  obtain ⟨q1, q2⟩ := s.own e n nt
  exact ⟨d.mono s.le (by rw [q1, e]), q2⟩
theorem DctR.own {b : Bool} {H' : Hp} {t : Bool} {kvs : List (PV × PV)} {a : Addr} (s : Stz b W H W' H') (d : DctR O W H t kvs a) (n : W a = none) : DctR O W' H' t kvs a ∧ W' a = none := by
  obtain ⟨o, e, nt, _⟩ := d.has
  obtain ⟨q1, q2⟩ := s.own e n nt
  exact ⟨d.mono s.le (by rw [q1, e]), q2⟩
theorem DctR.ownL {H' : Hp} {t : Bool} {kvs : List (PV × PV)} {a : Addr} (s : Stp W H W' H') (d : DctR O W H t kvs a) (n : Lo W a) : DctR O W' H' t kvs a ∧ Lo W' a := by
  obtain ⟨o, e, nt, _⟩ := d.has
  obtain ⟨q1, q2⟩ := s.ownL e n nt
  exact ⟨d.mono s.le (by rw [q1, e]), q2⟩
theorem RepB.step {H' : Hp} {x : V} (s : Stp W H W' H') (r : RepB O W H p x) : RepB O W' H' p x := by
  rcases r with r | ⟨a, vs, ps, e1, e2, e3, e4, e5⟩ | ⟨a, t, kvs, e1, e2, e3, e4⟩
  · exact .inl (r.mono s.le)
  · obtain ⟨q1, q2⟩ := s.ownL e3 e4
    exact .inr (.inl ⟨a, vs, ps, e1, e2, q1, q2, e5.mono s.le⟩)
  · obtain ⟨q1, q2⟩ := e4.own s e3
    exact .inr (.inr ⟨a, t, kvs, e1, e2, q2, q1⟩)
theorem RepB.lst {H : Hp} {x : V} (h : Hold W H) (r : RepB O W H (.lst ps) x) : ∃ a vs, x = .ref a ∧ H a = some (.lst vs) ∧ RepL O W ps vs := by
  rcases r with r | ⟨a, vs, ps', e1, e2, e3, e4, e5⟩ | ⟨a, t, kvs, e1, _⟩
  · obtain ⟨a, vs, e, l, t⟩ := Rep.lst_iff.mp r
    exact ⟨a, vs, e, l.at h, t⟩
  · cases e1
    exact ⟨a, vs, e2, e3, e5⟩
  · cases e1
theorem RepB.dct {H : Hp} {x : V} {t : Bool} {kvs : List (PV × PV)} (h : Hold W H) (r : RepB O W H (.dct t kvs) x) : ∃ a, x = .ref a ∧ DctR O W H t kvs a := by
  rcases r with r | ⟨a, vs, ps', e1, _⟩ | ⟨a, t, kvs, e1, e2, e3, e4⟩
  · exact r.dctO h
  · cases e1
  · cases e1
    exact ⟨a, e2, e4⟩
theorem RepB.val {H : Hp} {x : V} (r : RepB O W H p x) (hn : ∀ ps, p ≠ .lst ps) (hd : ∀ t ps, p ≠ .dct t ps) : Rep O W p x := by
  rcases r with r | ⟨a, vs, ps', e1, _⟩ | ⟨a, t, kvs, e1, _⟩
  · exact r
  · exact (hn ps' e1).elim
  · exact (hd _ _ e1).elim
end
/-- an error in the heap -/
def ExR (O : ObS) (W : Wd) (cls : Value) (d : Option Addr) (e : PX) : Prop := ∃ C, O.cl e.cls = some C ∧ cls = .ref C ∧
  ((e.fs = [] ∧ d = none) ∨ ∃ dd fv, d = some dd ∧ W dd = some (fun x => x = .xd fv) ∧ RepX O W e.fs fv)
theorem ExR.mono {O : ObS} {W W' : Wd} {cls : Value} {d : Option Addr} {e : PX} (w : Wle W W') (h : ExR O W cls d e) : ExR O W' cls d e := by
  obtain ⟨C, a, b, c⟩ := h
  refine ⟨C, a, b, ?_⟩
  rcases c with c | ⟨dd, fv, c1, c2, c3⟩
  · exact .inl c
  · exact .inr ⟨dd, fv, c1, w _ _ c2, c3.mono w⟩
theorem Rep.er_iff {O : ObS} {W : Wd} {c : String} {fs : List (String × PV)} {v : V} : Rep O W (.er c fs) v ↔ ∃ a cls d, v = .ref a ∧ W a = some (fun o => o = ErO a cls d) ∧ ExR O W cls d ⟨c, fs⟩ := by simp only [Rep, ExR]
theorem Rep.loc_iff {O : ObS} {W : Wd} {n : Nat} {v : V} : Rep O W (.loc n) v ↔ ∃ a, v = .ref a ∧ W a = some (LocF n) := by simp only [Rep]
theorem Rep.memo_iff {O : ObS} {W : Wd} {p q : PV} {v : V} : Rep O W (.memo p q) v ↔ ∃ a kvs, v = .ref a ∧ q = .dct false kvs ∧ W a = some (fun o => ∃ ks, o = .dT ks ∧ MemOk O p kvs ks) := by simp only [Rep]
/-- a dict that is being walked: it stands locked from the entry on -/
def KdO (O : ObS) (W0 : Wd) (H0 : Hp) (W : Wd) (t : Bool) (kvs : List (PV × PV)) (a : Addr) : Prop :=
  (t = false ∧ ∃ od ks, H0 a = some (.frz od (.dK ks)) ∧ (W0 a = none ∨ W0 a = some (TolF (.dK ks))) ∧ RepK O W kvs ks) ∨ (t = true ∧ ∃ od ks, H0 a = some (.frz od (.dT ks)) ∧ (W0 a = none ∨ W0 a = some (TolF (.dT ks))) ∧ RepT O W kvs ks)
theorem KdO.mono {O : ObS} {W0 : Wd} {H0 : Hp} {W W' : Wd} {t : Bool} {kvs : List (PV × PV)} {a : Addr} (w : Wle W W') (h : KdO O W0 H0 W t kvs a) : KdO O W0 H0 W' t kvs a := by
  rcases h with ⟨ht, od, ks, e, f, r⟩ | ⟨ht, od, ks, e, f, r⟩
  · exact .inl ⟨ht, od, ks, e, f, r.mono w⟩
  · exact .inr ⟨ht, od, ks, e, f, r.mono w⟩
theorem KdO.toB {b : Bool} {O : ObS} {W0 : Wd} {H0 : Hp} {W : Wd} {H : Hp} {t : Bool} {kvs : List (PV × PV)} {a : Addr} (s : Stz b W0 H0 W H) (h : KdO O W0 H0 W t kvs a) : RepB O W H (.dct t kvs) (.ref a) := by
  rcases h with ⟨ht, od, ks, e, f | f, r⟩ | ⟨ht, od, ks, e, f | f, r⟩
  · obtain ⟨q1, q2⟩ := s.own e f
    exact .inr (.inr ⟨a, t, kvs, rfl, rfl, q2, .inl ⟨ht, ks, .inr ⟨od, q1⟩, r⟩⟩)
  · exact .inl (Rep.dct_iff.mpr ⟨a, _, rfl, s.le _ _ f, .inl ⟨ht, ks, rfl, r⟩⟩)
  · obtain ⟨q1, q2⟩ := s.own e f
    exact .inr (.inr ⟨a, t, kvs, rfl, rfl, q2, .inr ⟨ht, ks, .inr ⟨od, q1⟩, r⟩⟩)
  · exact .inl (Rep.dct_iff.mpr ⟨a, _, rfl, s.le _ _ f, .inr ⟨ht, ks, rfl, r⟩⟩)
/-- where a def's body stands: the world and heap at its entry, the wish about errors; xa, xc, xd: the error that is handled; sa: the object in the making; la: by slots, what is being walked; li: this slot's; nb: nothing is borrowed; ef: cells may change; hs: the slot beside which the store is; ix: this slot -/
structure Cy where
  O : ObS
  W0 : Wd
  H0 : Hp
  h0 : Hold W0 H0
  Wx : WX
  xa : Addr
  xc : Value
  xd : Option Addr
  sa : Addr
  la : Nat → Option Addr
  li : Option Addr
  nb : Bool
  ef : Bool
  hs : Nat
  ix : Nat
  hla : ∀ j a, la j = some a → ∃ o, H0 a = some o ∧ ((∃ vs, o = .lst vs) ∨ ∃ od u, o = .frz od u)
/-- .. seen from slot i -/
@[reducible] def Cy.at (Y : Cy) (i : Nat) : Cy := { Y with li := Y.la i, ix := i }
/-- the fields of an object in the making; b: the places of its own dicts -/
def FsR (O : ObS) (W : Wd) (H H0 : Hp) : List (String × FV) → List (Str × V) → List Addr → Prop
  | [], vs, b => vs = [] ∧ b = []
  | (n, .v p) :: r, vs, b => ∃ v t, vs = (PySem.Str.ofString n, v) :: t ∧ Rep O W p v ∧ FsR O W H H0 r t b
  | (n, .d dt kvs) :: r, vs, b => ∃ a t b', vs = (PySem.Str.ofString n, .ref a) :: t ∧ b = a :: b' ∧ DctO O W H dt kvs a ∧ W a = none ∧ H0 a = none ∧ FsR O W H H0 r t b'
/-- the fields of an object of the store -/
def FvR (O : ObS) (W : Wd) : List (String × PV) → List (Str × V) → Prop
  | [], vs => vs = []
  | (n, p) :: r, vs => ∃ v t, vs = (PySem.Str.ofString n, v) :: t ∧ Rep O W p v ∧ FvR O W r t
theorem FvR.mono {O : ObS} {W W' : Wd} (w : Wle W W') : ∀ {fs : List (String × PV)} {vs : List (Str × V)}, FvR O W fs vs → FvR O W' fs vs
  | [], _, h => h
  | (n, p) :: r, _, h => by
    obtain ⟨v, t, e, h1, h⟩ := h
    exact ⟨v, t, e, h1.mono w, h.mono w⟩
/-- what stands in a cell -/
def CellR (O : ObS) (W : Wd) (H : Hp) (a : Addr) : Cl → Prop
  | .l xs => ∃ vs, H a = some (.lst vs) ∧ RepL O W xs vs
  | .d t kvs => DctO O W H t kvs a
  | .o kd fs => ∃ dx vs, H a = some (.ins (O.oc kd) dx vs) ∧ W dx = some (fun o => o = .own a) ∧ FvR O W fs vs
  | .w t kvs => (t = false ∧ ∃ od ks, H a = some (.frz od (.dK ks)) ∧ RepK O W kvs ks) ∨ (t = true ∧ ∃ od ks, H a = some (.frz od (.dT ks)) ∧ RepT O W kvs ks)
theorem CellR.mono {O : ObS} {W W' : Wd} {H H' : Hp} {a : Addr} {c : Cl} (w : Wle W W') (h : H' a = H a) (d : CellR O W H a c) : CellR O W' H' a c := by
  cases c with
  | l xs => obtain ⟨vs, e, r⟩ := d; exact ⟨vs, by rw [h]; exact e, r.mono w⟩
  | d t kvs => exact DctO.mono w h d
  | o kd fs => obtain ⟨dx, vs, e, e2, r⟩ := d; exact ⟨dx, vs, by rw [h]; exact e, w _ _ e2, r.mono w⟩
  | w t kvs =>
    rcases d with ⟨ht, od, ks, e, r⟩ | ⟨ht, od, ks, e, r⟩
    · exact .inl ⟨ht, od, ks, by rw [h]; exact e, r.mono w⟩
    · exact .inr ⟨ht, od, ks, by rw [h]; exact e, r.mono w⟩
/-- the store: cell by cell, each at one place -/
structure StoR (O : ObS) (W : Wd) (H : Hp) (S : List Cl) : Prop where
  at_ : ∀ n c, S[n]? = some c → ∃ a, W a = some (LocF n) ∧ CellR O W H a c
  one : ∀ a b n, W a = some (LocF n) → W b = some (LocF n) → a = b
  lt : ∀ a n, W a = some (LocF n) → n < S.length
/-- cells stay, and none comes -/
structure KeepC (W : Wd) (H : Hp) (W' : Wd) (H' : Hp) : Prop where
  kh : ∀ a n, W a = some (LocF n) → H' a = H a
  kl : ∀ a n, W' a = some (LocF n) → W a = some (LocF n)
theorem KeepC.refl {W : Wd} {H : Hp} : KeepC W H W H := ⟨fun _ _ _ => rfl, fun _ _ e => e⟩
theorem KeepC.of {W W' : Wd} {H H' : Hp} (s : Stp W H W' H') : KeepC W H W' H' := ⟨s.lk rfl, s.ll rfl⟩
theorem KeepC.trans {W W1 W2 : Wd} {H H1 H2 : Hp} (a : KeepC W H W1 H1) (le : Wle W W1) (b : KeepC W1 H1 W2 H2) : KeepC W H W2 H2 := ⟨fun x n e => by rw [b.kh x n (le x _ e), a.kh x n e], fun x n e => a.kl x n (b.kl x n e)⟩
theorem KeepC.upd {W : Wd} {H : Hp} {a : Addr} {o : HO} (n : W a = none) : KeepC W H W (upd H a o) := ⟨fun b m e => upd_ne fun z => (by rw [z, n] at e; cases e), fun _ _ e => e⟩
theorem KeepC.upd2 {W : Wd} {H : Hp} {a b : Addr} {o u : HO} (n : W a = none) (m : W b = none) : KeepC W H W (L2.upd (L2.upd H a o) b u) := (KeepC.upd n).trans (Wle.refl W) (KeepC.upd m)
theorem KeepC.putP {W : Wd} {H : Hp} {a : Addr} {f : HO → Prop} (nl : Nl f) : KeepC W H (putP W a f) H := ⟨fun _ _ _ => rfl, fun b n e => by
  by_cases hb : b = a
  · subst hb
    rw [putP_same] at e
    exact (nl n (Option.some.inj e)).elim
  · rw [putP_ne hb] at e; exact e⟩
theorem KeepC.putW {W : Wd} {H : Hp} {a : Addr} {o : HO} : KeepC W H (putW W a o) H := KeepC.putP (Nl.eq o)
theorem StoR.keep {O : ObS} {W W' : Wd} {H H' : Hp} {S : List Cl} (h : StoR O W H S) (w : Wle W W') (k : KeepC W H W' H') : StoR O W' H' S where
  at_ := fun n c e => by
    obtain ⟨a, q, r⟩ := h.at_ n c e
    exact ⟨a, w _ _ q, r.mono w (k.kh a n q)⟩
  one := fun a b n e1 e2 => h.one a b n (k.kl a n e1) (k.kl b n e2)
  lt := fun a n e => h.lt a n (k.kl a n e)
theorem StoR.step {O : ObS} {W W' : Wd} {H H' : Hp} {S : List Cl} (s : Stp W H W' H') (h : StoR O W H S) : StoR O W' H' S where
  at_ := fun n c e => by
    obtain ⟨a, w, r⟩ := h.at_ n c e
    exact ⟨a, s.le _ _ w, r.mono s.le (s.lk rfl a n w)⟩
  one := fun a b n e1 e2 => h.one a b n (s.ll rfl a n e1) (s.ll rfl b n e2)
  lt := fun a n e => h.lt a n (s.ll rfl a n e)
def SlR (Y : Cy) (W : Wd) (H : Hp) (x : Option V) : Sl → List Addr → Prop
  | .u, b => b = []
  | .v p, b => b = [] ∧ ∃ v, x = some v ∧ Rep Y.O W p v
  | .b p, b => b = [] ∧ Y.nb = false ∧ ∃ v, x = some v ∧ RepQ Y.ef Y.O Y.W0 Y.H0 W p v
  | .o ps, b => ∃ a vs, b = [a] ∧ x = some (.ref a) ∧ H a = some (.lst vs) ∧ W a = none ∧ Y.H0 a = none ∧ RepL Y.O W ps vs
  | .x e, b => b = [] ∧ x = some (.ref Y.xa) ∧ ExR Y.O W Y.xc Y.xd e
  | .d t kvs, b => ∃ a, b = [a] ∧ x = some (.ref a) ∧ W a = none ∧ Y.H0 a = none ∧ DctO Y.O W H t kvs a
  | .k ps, b => b = [] ∧ ∃ a, Y.li = some a ∧ x = some (.ref a) ∧ ∃ vs, Y.H0 a = some (.lst vs) ∧ Y.W0 a = none ∧ RepL Y.O W ps vs
  | .kd t kvs, b => b = [] ∧ ∃ a, Y.li = some a ∧ x = some (.ref a) ∧ KdO Y.O Y.W0 Y.H0 W t kvs a
  | .h p S, b => b = [] ∧ (∃ v, x = some v ∧ Rep Y.O W p v) ∧ Y.ix = Y.hs ∧ StoR Y.O W H S
  | .n k fs, b => ∃ a dx vs b', b = a :: dx :: b' ∧ (b.Nodup ∧ a = Y.sa) ∧ x = some (.ref a) ∧ H a = some (.ins (Y.O.oc k) dx vs) ∧ H dx = some (.own a) ∧ W a = none ∧ W dx = none ∧ Y.H0 a = none ∧ Y.H0 dx = none ∧ FsR Y.O W H Y.H0 fs vs b'
structure EnvR (Y : Cy) (W : Wd) (H : Hp) (σ : St) (env : Ev) : Prop where
  st : Stz Y.ef Y.W0 Y.H0 W H
  len : σ.length = env.length
  ex : ∃ bs : List (List Addr), bs.length = env.length ∧ (∀ (i : Nat) s x b, env[i]? = some s → σ[i]? = some x → bs[i]? = some b → SlR (Y.at i) W H x s b) ∧ ∀ (i j : Nat) bi bj a, bs[i]? = some bi → bs[j]? = some bj → a ∈ bi → a ∈ bj → i = j
theorem FsR.free {O : ObS} {W : Wd} {H H0 : Hp} : ∀ {fs : List (String × FV)} {vs : List (Str × V)} {b : List Addr}, FsR O W H H0 fs vs b → ∀ a ∈ b, W a = none ∧ H0 a = none ∧ ∃ o, H a = some o ∧ ∀ ws, o ≠ .tup ws
  | [], _, _, h, a, ha => by rw [h.2] at ha; cases ha
  | (n, .v p) :: r, _, _, h, a, ha => by
    obtain ⟨v, t, _, _, h⟩ := h
    exact h.free a ha
  | (n, .d dt kvs) :: r, _, _, h, a, ha => by
    obtain ⟨a', t, b', _, e, h1, h2, h3, h⟩ := h
    rw [e] at ha
    rcases List.mem_cons.mp ha with rfl | ha
    · obtain ⟨o, q, nt⟩ := h1.ntup
      exact ⟨h2, h3, o, q, nt⟩
    · exact h.free a ha
theorem FsR.frame {O : ObS} {W W' : Wd} {H H' H0 : Hp} (w : Wle W W') : ∀ {fs : List (String × FV)} {vs : List (Str × V)} {b : List Addr}, FsR O W H H0 fs vs b → (∀ a ∈ b, W' a = none ∧ H' a = H a) → FsR O W' H' H0 fs vs b
  | [], _, _, h, k => h
  | (n, .v p) :: r, _, _, h, k => by
    obtain ⟨v, t, e, h1, h⟩ := h
    exact ⟨v, t, e, h1.mono w, h.frame w k⟩
  | (n, .d dt kvs) :: r, _, _, h, k => by
    obtain ⟨a', t, b', e1, e, h1, h2, h3, h⟩ := h
    subst e
    obtain ⟨k1, k2⟩ := k a' List.mem_cons_self
    exact ⟨a', t, b', e1, rfl, h1.mono w k2, k1, h3, h.frame w fun a ha => k a (List.mem_cons_of_mem _ ha)⟩
section
variable {Y : Cy} {W W' : Wd} {H H' : Hp} {σ : St} {env : Ev}
theorem EnvR.ho (E : EnvR Y W H σ env) : Hold W H := E.st.ho
/-- what a slot owns is not known for good, was not there at the entry, and is there -/
theorem SlR.free {x : Option V} {s : Sl} {b : List Addr} (h : SlR Y W H x s b) : ∀ a ∈ b, W a = none ∧ Y.H0 a = none ∧ ∃ o, H a = some o ∧ ∀ ws, o ≠ .tup ws := by
  intro a ha
  cases s with
  | u => rw [show b = [] from h] at ha; cases ha
  | v p => rw [h.1] at ha; cases ha
  | b p => rw [h.1] at ha; cases ha
  | x e => rw [h.1] at ha; cases ha
  | k ps => rw [h.1] at ha; cases ha
  | kd t kvs => rw [h.1] at ha; cases ha
  | h p S => rw [h.1] at ha; cases ha
  | o ps =>
    obtain ⟨a', vs, e1, e2, e3, e4, e5, e6⟩ := h
    rw [e1] at ha
    rw [List.mem_singleton.mp ha]
    exact ⟨e4, e5, _, e3, fun ws z => by cases z⟩
  | d dt kvs =>
    obtain ⟨a', e1, e2, e3, e4, e5⟩ := h
    rw [e1] at ha
    rw [List.mem_singleton.mp ha]
    obtain ⟨o, q, nt⟩ := e5.ntup
    exact ⟨e3, e4, o, q, nt⟩
  | n k fs =>
    obtain ⟨a', dx, vs, b', e1, e2, e3, e4, e5, e6, e7, e8, e9, e10⟩ := h
    rw [e1] at ha
    rcases List.mem_cons.mp ha with rfl | ha
    · exact ⟨e6, e8, _, e4, fun ws z => by cases z⟩
    · rcases List.mem_cons.mp ha with rfl | ha
      · exact ⟨e7, e9, _, e5, fun ws z => by cases z⟩
      · exact e10.free a ha
theorem SlR.frame {x : Option V} {s : Sl} {b : List Addr} (w : Wle W W') (h : SlR Y W H x s b) (k : ∀ a ∈ b, W' a = none ∧ H' a = H a) (kc : KeepC W H W' H') : SlR Y W' H' x s b := by
  cases s with
  | u => exact h
  | h p S =>
    obtain ⟨e, ⟨v, e1, r⟩, hi, st⟩ := h
    exact ⟨e, ⟨v, e1, r.mono w⟩, hi, st.keep w kc⟩
  | v p =>
    obtain ⟨e, v, e1, r⟩ := h
    exact ⟨e, v, e1, r.mono w⟩
  | b p =>
    obtain ⟨e, en, v, e1, r⟩ := h
    exact ⟨e, en, v, e1, r.mono w⟩
  | o ps =>
    obtain ⟨a, vs, e1, e2, e3, e4, e5, e6⟩ := h
    subst e1
    obtain ⟨k1, k2⟩ := k a List.mem_cons_self
    exact ⟨a, vs, rfl, e2, by rw [k2]; exact e3, k1, e5, e6.mono w⟩
  | x e =>
    obtain ⟨e1, e2, e3⟩ := h
    exact ⟨e1, e2, e3.mono w⟩
  | k ps =>
    obtain ⟨e1, a, ea, e2, vs, e3, e4, e5⟩ := h
    exact ⟨e1, a, ea, e2, vs, e3, e4, e5.mono w⟩
  | kd t kvs =>
    obtain ⟨e1, a, ea, e2, e3⟩ := h
    exact ⟨e1, a, ea, e2, e3.mono w⟩
  | d dt kvs =>
    obtain ⟨a, e1, e2, e3, e4, e5⟩ := h
    subst e1
    obtain ⟨k1, k2⟩ := k a List.mem_cons_self
    exact ⟨a, rfl, e2, k1, e4, e5.mono w k2⟩
  | n kd fs =>
    obtain ⟨a, dx, vs, b', e1, e2, e3, e4, e5, e6, e7, e8, e9, e10⟩ := h
    subst e1
    obtain ⟨k1, k2⟩ := k a List.mem_cons_self
    obtain ⟨k3, k4⟩ := k dx (List.mem_cons_of_mem _ List.mem_cons_self)
    exact ⟨a, dx, vs, b', rfl, e2, e3, by rw [k2]; exact e4, by rw [k4]; exact e5, k1, k3, e8, e9, e10.frame w fun c hc => k c (List.mem_cons_of_mem _ (List.mem_cons_of_mem _ hc))⟩
theorem SlR.step {x : Option V} {s : Sl} {b : List Addr} (t : Stp W H W' H') (h : SlR Y W H x s b) : SlR Y W' H' x s b := by
  refine h.frame t.le (fun a ha => ?_) (.of t)
  obtain ⟨f1, _, o, f3, nt⟩ := h.free a ha
  obtain ⟨q1, q2⟩ := t.own f3 f1 nt
  exact ⟨q2, by rw [q1, f3]⟩
theorem EnvR.step (E : EnvR Y W H σ env) (t : Stp W H W' H') : EnvR Y W' H' σ env := by
  obtain ⟨bs, l, h, d⟩ := E.ex
  exact ⟨E.st.trans Y.h0 t, E.len, bs, l, fun i s x b e1 e2 e3 => (h i s x b e1 e2 e3).step t, d⟩
theorem EnvR.slot (E : EnvR Y W H σ env) {i : Nat} {s : Sl} (e : env[i]? = some s) : ∃ x b, σ[i]? = some x ∧ SlR (Y.at i) W H x s b := by
  obtain ⟨bs, l, h, d⟩ := E.ex
  have hi : i < env.length := (List.getElem?_eq_some_iff.mp e).1
  have h1 : i < σ.length := by rw [E.len]; exact hi
  have h2 : i < bs.length := by rw [l]; exact hi
  exact ⟨σ[i], bs[i], by simp [h1], h i s _ _ e (by simp [h1]) (by simp [h2])⟩
/-- slot i, its things and the world change; what the others own stays -/
theorem EnvR.alter (E : EnvR Y W H σ env) (i : Nat) : ∃ b, (∀ s, env[i]? = some s → ∃ x, σ[i]? = some x ∧ SlR (Y.at i) W H x s b) ∧
    ∀ W' H' s' x' b', Wle W W' → KeepC W H W' H' → Stz Y.ef Y.W0 Y.H0 W' H' → (∀ a o, a ∉ b → H a = some o → (∀ ws, o ≠ .tup ws) → W a = none → W' a = none ∧ H' a = some o) → SlR (Y.at i) W' H' x' s' b' → (∀ a ∈ b', a ∈ b ∨ H a = none) → EnvR Y W' H' (σ.set i x') (env.set i s') := by
  obtain ⟨bs, l, hs, d⟩ := E.ex
  by_cases hi : i < env.length
  · have h1 : i < σ.length := by rw [E.len]; exact hi
    have h2 : i < bs.length := by rw [l]; exact hi
    refine ⟨bs[i], fun s e => ⟨σ[i], by simp [h1], hs i s _ _ e (by simp [h1]) (by simp [h2])⟩, fun W' H' s' x' b' w kc st fr h hb => ?_⟩
    refine ⟨st, by simp [E.len], bs.set i b', by simp [l], fun j s x b e1 e2 e3 => ?_, fun j k bj bk a e1 e2 a1 a2 => ?_⟩
    · by_cases hj : i = j
      · subst hj
        rw [List.getElem?_set_self hi] at e1
        rw [List.getElem?_set_self h1] at e2
        rw [List.getElem?_set_self h2] at e3
        cases e1; cases e2; cases e3
        exact h
      · rw [List.getElem?_set_ne hj] at e1 e2 e3
        have q := hs j s x b e1 e2 e3
        refine q.frame w (fun a ha => ?_) kc
        obtain ⟨f1, f2, o, f3, nt⟩ := q.free a ha
        obtain ⟨g1, g2⟩ := fr a o (fun z => hj (d i j _ _ a (by simp [h2]) e3 z ha)) f3 nt f1
        exact ⟨g1, by rw [g2, f3]⟩
    · have other : ∀ m bm, m ≠ i → (bs.set i b')[m]? = some bm → bs[m]? = some bm := fun m bm hm e => by rwa [List.getElem?_set_ne (Ne.symm hm)] at e
      have self : ∀ bm, (bs.set i b')[i]? = some bm → bm = b' := fun bm e => by
        rw [List.getElem?_set_self h2] at e
        exact (Option.some.inj e).symm
      have clash : ∀ m bm, m ≠ i → bs[m]? = some bm → a ∈ bm → a ∈ b' → False := fun m bm hm e am ab => by
        have hml : m < bs.length := (List.getElem?_eq_some_iff.mp e).1
        have g1 : m < env.length := by rw [← l]; exact hml
        have g2 : m < σ.length := by rw [E.len]; exact g1
        have q := hs m env[m] σ[m] bm (by simp [g1]) (by simp [g2]) e
        obtain ⟨_, _, o, f3, _⟩ := q.free a am
        rcases hb a ab with z | z
        · exact hm (d m i _ _ a e (by simp [h2]) am z)
        · rw [f3] at z; cases z
      by_cases hj : j = i
      · by_cases hk : k = i
        · rw [hj, hk]
        · rw [hj] at e1
          rw [self _ e1] at a1
          exact (clash k bk hk (other k bk hk e2) a2 a1).elim
      · by_cases hk : k = i
        · rw [hk] at e2
          rw [self _ e2] at a2
          exact (clash j bj hj (other j bj hj e1) a1 a2).elim
        · exact d j k _ _ a (other j bj hj e1) (other k bk hk e2) a1 a2
  · refine ⟨[], fun s e => absurd (List.getElem?_eq_some_iff.mp e).1 hi, fun W' H' s' x' b' w kc st fr h hb => ?_⟩
    rw [List.set_eq_of_length_le (by rw [E.len]; omega), List.set_eq_of_length_le (by omega)]
    refine ⟨st, E.len, bs, l, fun j s x b e1 e2 e3 => ?_, d⟩
    have q := hs j s x b e1 e2 e3
    refine q.frame w (fun a ha => ?_) kc
    obtain ⟨f1, f2, o, f3, nt⟩ := q.free a ha
    obtain ⟨g1, g2⟩ := fr a o (by simp) f3 nt f1
    exact ⟨g1, by rw [g2, f3]⟩
/-- a slot is stored: what it owns is new since H -/
theorem EnvR.setN (E : EnvR Y W H σ env) (t : Stp W H W' H') {i : Nat} {s : Sl} {x : Option V} {b : List Addr} (h : SlR (Y.at i) W' H' x s b) (hb : ∀ a ∈ b, H a = none) : EnvR Y W' H' (σ.set i x) (env.set i s) := by
  obtain ⟨b0, _, k⟩ := E.alter i
  exact k W' H' s x b t.le (.of t) (E.st.trans Y.h0 t) (fun a o _ e1 nt e2 => let ⟨q1, q2⟩ := t.own e1 e2 nt; ⟨q2, q1⟩) h fun a ha => .inr (hb a ha)
theorem EnvR.setv (E : EnvR Y W H σ env) {i : Nat} {p : PV} {v : V} (h : Rep Y.O W p v) : EnvR Y W H (σ.set i (some v)) (env.set i (.v p)) :=
  E.setN (Stp.refl E.ho) (b := []) ⟨rfl, v, rfl, h⟩ fun a e => by cases e
theorem EnvR.setu (E : EnvR Y W H σ env) {i : Nat} {x : Option V} : EnvR Y W H (σ.set i x) (env.set i .u) :=
  E.setN (Stp.refl E.ho) (b := []) (show SlR (Y.at i) W H x .u [] from rfl) fun a e => by cases e
/-- .. a new list of one's own -/
theorem EnvR.seto (E : EnvR Y W H σ env) (t : Stp W H W' H') {i : Nat} {ps : List PV} {vs : List V} {a : Addr} (n : H a = none) (ha : H' a = some (.lst vs)) (hw : W' a = none) (r : RepL Y.O W' ps vs) : EnvR Y W' H' (σ.set i (some (.ref a))) (env.set i (.o ps)) :=
  E.setN t (b := [a]) ⟨a, vs, rfl, rfl, ha, hw, E.st.back Y.h0 n, r⟩ fun a' e => by rw [List.mem_singleton.mp e]; exact n
/-- a thing that is not known for good, and was not there at the entry, is changed -/
theorem Stz.mut {b : Bool} {W0 : Wd} {H0 : Hp} (s : Stz b W0 H0 W H) {a : Addr} {o : HO} (hw : W a = none) (h0 : H0 a = none) : Stz b W0 H0 W (upd H a o) where
  le := s.le
  ho := s.ho.upd0 hw
  kp := fun b u q z => by
    rw [upd_ne (ne_of_none q h0)]
    exact s.kp b u q z
  nw := s.nw
  lf := fun x n od u e q => by
    rw [upd_ne (fun z => by rw [z, h0] at q; cases q)]
    exact s.lf x n od u e q
  lk := fun hb x n e => by
    rw [upd_ne (fun z => by have q := s.le x _ e; rw [z, hw] at q; cases q)]
    exact s.lk hb x n e
  ll := s.ll
theorem set_self {α : Type} {l : List α} {i : Nat} {x : α} (h : l[i]? = some x) : l.set i x = l := by
  obtain ⟨hi, e⟩ := List.getElem?_eq_some_iff.mp h
  rw [← e]
  exact List.set_getElem_self hi
/-- the list in slot i becomes another one -/
theorem EnvR.mut (E : EnvR Y W H σ env) {i : Nat} {ps : List PV} (e : env[i]? = some (.o ps)) : ∃ a vs, σ[i]? = some (some (.ref a)) ∧ H a = some (.lst vs) ∧ W a = none ∧ RepL Y.O W ps vs ∧
    ∀ qs ws, RepL Y.O W qs ws → EnvR Y W (upd H a (.lst ws)) σ (env.set i (.o qs)) := by
  obtain ⟨b, k1, k2⟩ := E.alter i
  obtain ⟨x, e1, a, vs, c1, c2, c3, c4, c5, c6⟩ := k1 _ e
  subst c1
  subst c2
  refine ⟨a, vs, e1, c3, c4, c6, fun qs ws r => ?_⟩
  have := k2 W (upd H a (.lst ws)) (.o qs) (some (.ref a)) [a] (Wle.refl W) (.upd c4) (E.st.mut c4 c5) (fun b o hb q1 _ q2 => ⟨q2, by rw [upd_ne (fun z => hb (by rw [z]; exact List.mem_cons_self))]; exact q1⟩) ⟨a, ws, rfl, rfl, upd_same, c4, c5, r⟩ fun a' h => .inl h
  rwa [set_self e1] at this
/-- what stands becomes known for good -/
theorem Stz.knownP {b : Bool} {W0 : Wd} {H0 : Hp} (s : Stz b W0 H0 W H) {a : Addr} {o : HO} {f : HO → Prop} (g : Gd f) (nl : Nl f) (fo : f o) (hw : W a = none) (h0 : H0 a = none) (h : H a = some o) : Stz b W0 H0 (putP W a f) H where
  le := s.le.trans (Wle.putP hw)
  ho := s.ho.putP g ⟨o, h, fo⟩ fun b u _ e _ => e
  kp := s.kp
  nw := fun b f q => by
    by_cases hb : b = a
    · subst hb
      exact .inr (.inl h0)
    · rw [putP_ne hb] at q
      exact s.nw b f q
  lf := s.lf
  lk := s.lk
  ll := fun hb x n q => by
    by_cases hx : x = a
    · subst hx
      rw [putP_same] at q
      exact (nl n (Option.some.inj q)).elim
    · rw [putP_ne hx] at q
      exact s.ll hb x n q
theorem Stz.known {b : Bool} {W0 : Wd} {H0 : Hp} (s : Stz b W0 H0 W H) {a : Addr} {o : HO} (hw : W a = none) (h0 : H0 a = none) (h : H a = some o) : Stz b W0 H0 (putW W a o) H := s.knownP (Gd.eq o) (Nl.eq o) rfl hw h0 h
theorem DctO.known {t : Bool} {kvs : List (PV × PV)} {a : Addr} {O : ObS} (d : DctO O W H t kvs a) (hw : W a = none) : ∃ o, H a = some o ∧ IsDk o ∧ Rep O (putP W a (TolF o)) (.dct t kvs) (.ref a) := by
  rcases d with ⟨ht, ks, e, r⟩ | ⟨ht, ks, e, r⟩
  · exact ⟨_, e, .inl ⟨ks, rfl⟩, Rep.dct_iff.mpr ⟨a, _, rfl, putP_same, .inl ⟨ht, ks, rfl, r.mono (Wle.putP hw)⟩⟩⟩
  · exact ⟨_, e, .inr ⟨ks, rfl⟩, Rep.dct_iff.mpr ⟨a, _, rfl, putP_same, .inr ⟨ht, ks, rfl, r.mono (Wle.putP hw)⟩⟩⟩
theorem EnvR.frz (E : EnvR Y W H σ env) (i : Nat) : ∃ W', Wle W W' ∧ EnvR Y W' H σ (JP.frz i env) := by
  unfold JP.frz
  obtain ⟨b, k1, k2⟩ := E.alter i
  cases e : env[i]? with
  | none => exact ⟨W, Wle.refl W, E⟩
  | some s =>
    cases s with
    | o ps =>
      obtain ⟨x, e1, a, vs, c1, c2, c3, c4, c5, c6⟩ := k1 _ e
      subst c1
      subst c2
      have le : Wle W (putW W a (.lst vs)) := Wle.put c4
      refine ⟨putW W a (.lst vs), le, ?_⟩
      have := k2 (putW W a (.lst vs)) H (.v (.lst ps)) (some (.ref a)) [] le .putW (E.st.known c4 c5 c3) (fun b o hb q1 _ q2 => ⟨by rw [putW_ne (fun z => hb (by rw [z]; exact List.mem_cons_self))]; exact q2, q1⟩)
        ⟨rfl, .ref a, rfl, Rep.lst_iff.mpr ⟨a, vs, rfl, ⟨_, putW_same, fun o z => z⟩, c6.mono le⟩⟩ fun a' h => by cases h
      rwa [set_self e1] at this
    | d dt kvs =>
      obtain ⟨x, e1, a, c1, c2, c4, c5, c6⟩ := k1 _ e
      subst c1
      subst c2
      obtain ⟨o, q1, dk, q2⟩ := c6.known c4
      have le : Wle W (putP W a (TolF o)) := Wle.putP c4
      refine ⟨putP W a (TolF o), le, ?_⟩
      have := k2 (putP W a (TolF o)) H (.v (.dct dt kvs)) (some (.ref a)) [] le (.putP (Nl.tol dk)) (E.st.knownP (Gd.tol dk) (Nl.tol dk) (.inl rfl) c4 c5 q1) (fun b o hb q1 _ q2 => ⟨by rw [putP_ne (fun z => hb (by rw [z]; exact List.mem_cons_self))]; exact q2, q1⟩)
        ⟨rfl, .ref a, rfl, q2⟩ fun a' h => by cases h
      rwa [set_self e1] at this
    | _ => exact ⟨W, Wle.refl W, E⟩
end

def RP {α : Type} (Y : Cy) (σ : St) (W : Wd) (H : Hp) (r : R α) (k : Wd → Hp → α → Prop) : Prop :=
  match r with
  | .ok a => ∀ W' H', Stp W H W' H' → k W' H' a
  | .ex e => ∀ W' H' cls d, Stp W H W' H' → ExR Y.O W' cls d e → Y.Wx cls d σ H'
  | .bad => False
def tP (Y : Cy) (f : EX) : TE := fun σ H Q => ∃ W env, EnvR Y W H σ env ∧ RP Y σ W H (f env) fun W' H' p => ∀ x, Rep Y.O W' p x → Q x H'
def tB (Y : Cy) (f : EX) : TE := fun σ H Q => ∃ W env, EnvR Y W H σ env ∧ RP Y σ W H (f env) fun W' H' p => ∀ x, RepB Y.O W' H' p x → Q x H'
def tQ (Y : Cy) (f : EX) : TE := fun σ H Q => ∃ W env, EnvR Y W H σ env ∧ RP Y σ W H (f env) fun W' H' p => ∀ x, RepQ Y.ef Y.O Y.W0 Y.H0 W' p x → Q x H'
/-- a new list -/
def tF (Y : Cy) (f : AX) : TE := fun σ H Q => ∃ W env, EnvR Y W H σ env ∧ RP Y σ W H (f env) fun W' H' ps => ∀ a vs, H a = none → W' a = none → H' a = some (.lst vs) → RepL Y.O W' ps vs → Q (.ref a) H'
def ArgR (O : ObS) (W : Wd) (H : Hp) : List Bool → List PV → List V → Prop
  | [], ps, vs => ps = [] ∧ vs = []
  | m :: ms, ps, vs => ∃ p pr v vr, ps = p :: pr ∧ vs = v :: vr ∧ (if m = true then RepB O W H p v else Rep O W p v) ∧ ArgR O W H ms pr vr
def tAr (Y : Cy) (md : List Bool) (f : AX) : TA := fun σ H Q => ∃ W env, EnvR Y W H σ env ∧ RP Y σ W H (f env) fun W' H' ps => ∀ xs, ArgR Y.O W' H' md ps xs → Q xs H'
def tT (Y : Cy) (f : EX) : TT := fun σ H Q => ∃ W env, EnvR Y W H σ env ∧ RP Y σ W H (f env) fun W' H' p => ∃ b, p = .bl b ∧ Q b H'
def tS (Y : Cy) (g : SX) : TS := fun D σ H => ∃ W env, EnvR Y W H σ env ∧
  match g env with
  | .nx e => ∀ W' H' σ', Wle W W' → EnvR Y W' H' σ' e → D.nx σ' H'
  | .bk e => ∀ W' H' σ', Wle W W' → EnvR Y W' H' σ' e → D.bk σ' H'
  | .ct e => ∀ W' H' σ', Wle W W' → EnvR Y W' H' σ' e → D.ct σ' H'
  | .rt p => ∀ W' H' x, Stz Y.ef Y.W0 Y.H0 W' H' → Rep Y.O W' p x → D.rt x H'
  | .rf ps => ∀ W' H' a vs, Stz Y.ef Y.W0 Y.H0 W' H' → Y.H0 a = none → W' a = none → H' a = some (.lst vs) → RepL Y.O W' ps vs → D.rt (.ref a) H'
  | .ex x e => ∀ W' H' σ' cls d, Wle W W' → EnvR Y W' H' σ' e → ExR Y.O W' cls d x → Y.Wx cls d σ' H'
  | .bad => False
  | .rs p S => ∀ W' H' x, Wle W W' → Stz Y.ef Y.W0 Y.H0 W' H' → StoR Y.O W' H' S → Rep Y.O W' p x → D.rt x H'
  | .rg ps S => ∀ W' H' a vs, Wle W W' → Stz Y.ef Y.W0 Y.H0 W' H' → StoR Y.O W' H' S → Y.H0 a = none → W' a = none → H' a = some (.lst vs) → RepL Y.O W' ps vs → D.rt (.ref a) H'
end JP

set_option Elab.async false
set_option linter.all false
set_option maxRecDepth 100000
namespace JP
open PySem L2
section
variable {X : Cx}
theorem pe_imp {e : Expr} {t t' : TE} (h : PE X e t) (k : ∀ σ H Q, t' σ H Q → t σ H Q) : PE X e t' := ⟨fun pins s σ H Q I w => h.run pins s σ H Q I (k σ H Q w)⟩
theorem pt_imp {e : Expr} {t t' : TT} (h : PT X e t) (k : ∀ σ H Q, t' σ H Q → t σ H Q) : PT X e t' := ⟨fun pins s σ H Q I w => h.run pins s σ H Q I (k σ H Q w)⟩
theorem pw_imp {e : Expr} {t t' : TT} (h : PW X e t) (k : ∀ σ H Q, t' σ H Q → t σ H Q) : PW X e t' := ⟨fun wh pins s σ H Q I w => h.run wh pins s σ H Q I (k σ H Q w)⟩
theorem pa_imp {es : List Expr} {t t' : TA} (h : PA X es t) (k : ∀ σ H Q, t' σ H Q → t σ H Q) : PA X es t' := ⟨fun pos pins s σ H Q I w => h.run pos pins s σ H Q I (k σ H Q w)⟩
theorem po_imp {e : Option Expr} {t t' : TO} (h : PO X e t) (k : ∀ σ H Q, t' σ H Q → t σ H Q) : PO X e t' := ⟨fun pins s σ H Q I w => h.run pins s σ H Q I (k σ H Q w)⟩
theorem ps_imp {st : Stmt} {t t' : TS} (h : PS X st t) (k : ∀ D σ H, t' D σ H → t D σ H) : PS X st t' := ⟨fun pins s σ H D I w => h.run pins s σ H D I (k D σ H w)⟩
theorem pss_imp {st : List Stmt} {t t' : TS} (h : PSs X st t) (k : ∀ D σ H, t' D σ H → t D σ H) : PSs X st t' := ⟨fun pins s σ H D I w => h.run pins s σ H D I (k D σ H w)⟩
end
section
variable {Y : Cy} {σ : St} {W W1 : Wd} {H H1 : Hp} {α β : Type}
theorem RP.mono {r : R α} {k k' : Wd → Hp → α → Prop} (h : RP Y σ W H r k) (m : ∀ W' H' a, Stp W H W' H' → k W' H' a → k' W' H' a) : RP Y σ W H r k' := by
  cases r with
  | ok a => exact fun W' H' t => m W' H' a t (h W' H' t)
  | ex e => exact h
  | bad => exact h
theorem RP.start {r : R α} {k : Wd → Hp → α → Prop} (h0 : Hold W H) (t : Stp W H W1 H1) (h : RP Y σ W H r k) : RP Y σ W1 H1 r k := by
  cases r with
  | ok a => exact fun W' H' t' => h W' H' (t.trans h0 t')
  | ex e => exact fun W' H' cls d t' x => h W' H' cls d (t.trans h0 t') x
  | bad => exact h
theorem RP.bind {r : R α} {g : α → R β} {k : Wd → Hp → β → Prop} (h0 : Hold W H) (h : RP Y σ W H (r.bind g) k) : RP Y σ W H r fun W1 H1 a => RP Y σ W1 H1 (g a) k := by
  cases r with
  | ok a => exact fun W' H' t => RP.start h0 t h
  | ex e => exact h
  | bad => exact h
theorem RP.ofO {o : Option α} {k : Wd → Hp → α → Prop} (h : RP Y σ W H (JP.ofO o) k) : ∃ a, o = some a ∧ ∀ W' H', Stp W H W' H' → k W' H' a := by
  cases o with
  | none => exact False.elim h
  | some a => exact ⟨a, rfl, h⟩
theorem RP.now {a : α} {k : Wd → Hp → α → Prop} (h0 : Hold W H) (h : RP Y σ W H (.ok a) k) : k W H a := h W H (Stp.refl h0)
end
section
variable {X : Cx} {Y : Cy} {e a b c : Expr} {f g k : EX} {pos : Pos}
/-- a value may stand for a borrowed one -/
theorem pe_pb (h : PE X e (tP Y f)) : PE X e (tB Y f) := pe_imp h fun σ H Q ⟨W, env, E, r⟩ => ⟨W, env, E, r.mono fun _ _ _ _ q x hx => q x (.inl hx)⟩
theorem pe_pq (h : PE X e (tP Y f)) : PE X e (tQ Y f) := pe_imp h fun σ H Q ⟨W, env, E, r⟩ => ⟨W, env, E, r.mono fun _ _ _ _ q x hx => q x (.inl hx)⟩
theorem RepQ.toB {b : Bool} {W0 : Wd} {H0 : Hp} {W : Wd} {H : Hp} {O : ObS} {p : PV} {x : V} (s : Stz b W0 H0 W H) (r : RepQ b O W0 H0 W p x) : RepB O W H p x := by
  rcases r with r | ⟨a, vs, ps, e1, e2, e3, e4, e5⟩ | ⟨a, t, kvs, e1, e2, e3, e4⟩
  · exact .inl r
  · obtain ⟨q1, q2⟩ := s.ownQ e3 e4
    exact .inr (.inl ⟨a, vs, ps, e1, e2, q1, q2.lo, e5⟩)
  · obtain ⟨o, q, nt, k⟩ := e4.has
    obtain ⟨q1, q2⟩ := s.own q e3 nt
    exact .inr (.inr ⟨a, t, kvs, e1, e2, q2, k _ q1⟩)
theorem pe_qb (h : PE X e (tQ Y f)) : PE X e (tB Y f) := pe_imp h fun σ H Q ⟨W, env, E, r⟩ => ⟨W, env, E, r.mono fun W' H' _ t q x hx => q x (RepQ.toB (E.step t).st hx)⟩
/-- what is new is kept for good -/
theorem Stp.fix {W W' : Wd} {H H' : Hp} {p : Addr} {o : HO} (t : Stp W H W' H') (n0 : H p = none) (nw : W' p = none) (ha : H' p = some o) : Stp W H (putW W' p o) H' where
  le := t.le.trans (Wle.put nw)
  ho := t.ho.putP (Gd.eq o) ⟨_, ha, rfl⟩ fun b u _ e _ => e
  kp := t.kp
  nw := fun q f e => by
    by_cases hb : q = p
    · subst hb
      exact .inr (.inl n0)
    · rw [putW_ne hb] at e
      exact t.nw q f e
  lf := t.lf
  lk := t.lk
  ll := fun hb q n e => by
    by_cases hq : q = p
    · subst hq
      rw [putW_same] at e
      exact (Nl.eq _ n (Option.some.inj e)).elim
    · rw [putW_ne hq] at e
      exact t.ll hb q n e
theorem Rep.fixL {O : ObS} {W : Wd} {p : Addr} {ps : List PV} {vs : List V} (nw : W p = none) (r : RepL O W ps vs) : Rep O (putW W p (.lst vs)) (.lst ps) (.ref p) :=
  Rep.lst_iff.mpr ⟨p, vs, rfl, ⟨_, putW_same, fun _ z => z⟩, r.mono (Wle.put nw)⟩
theorem Rep.fixT {O : ObS} {W : Wd} {p : Addr} {ps : List PV} {vs : List V} (nw : W p = none) (r : RepL O W ps vs) : Rep O (putW W p (.tup vs)) (.tup ps) (.ref p) :=
  Rep.tup_iff.mpr ⟨p, vs, rfl, ⟨_, putW_same, fun _ z => z⟩, r.mono (Wle.put nw)⟩
/-- a new list, kept for good -/
theorem pe_fp {f : AX} (h : PE X e (tF Y f)) : PE X e (tP Y (eFrz f)) := by
  refine pe_imp h fun σ H Q ⟨W, env, E, r⟩ => ⟨W, env, E, ?_⟩
  unfold eFrz at r
  cases hf : f env with
  | ok ps =>
    rw [hf] at r
    exact fun W' H' t p vs n0 nw ha rl => r (putW W' p (.lst vs)) H' (t.fix n0 nw ha) (.ref p) (Rep.fixL nw rl)
  | ex x => rw [hf] at r; exact r
  | bad => rw [hf] at r; exact r

theorem ge_var (i : Nat) {x : Str} (hN : X.N[i]? = some x := by rfl) (hv : Vis X.env.scope x := by first | exact Or.inl rfl | exact Or.inr (Or.inl rfl) | exact Or.inr (Or.inr rfl)) (hd : (x == ("__debug__" : Str)) = false := by decide) (hcd : (x == ("__classdict__" : Str)) = false := by decide) : PE X (.Name x pos) (tP Y (eVar i)) := by
  refine pe_imp (pe_var hN hv hd hcd) fun σ H Q ⟨W, env, E, r⟩ => ?_
  unfold eVar at r
  cases e : env[i]? with
  | none => rw [e] at r; exact False.elim r
  | some s =>
    rw [e] at r
    cases s with
    | v p =>
      obtain ⟨x, b, e1, _, v, e2, rv⟩ := E.slot e
      exact ⟨v, by rw [e1, e2], r.now E.ho v rv⟩
    | h p S =>
      obtain ⟨x, b, e1, _, ⟨v, e2, rv⟩, _⟩ := E.slot e
      exact ⟨v, by rw [e1, e2], r.now E.ho v rv⟩
    | _ => exact False.elim r
theorem ge_bor (i : Nat) {x : Str} (hN : X.N[i]? = some x := by rfl) (hv : Vis X.env.scope x := by first | exact Or.inl rfl | exact Or.inr (Or.inl rfl) | exact Or.inr (Or.inr rfl)) (hd : (x == ("__debug__" : Str)) = false := by decide) (hcd : (x == ("__classdict__" : Str)) = false := by decide) : PE X (.Name x pos) (tB Y (eBor i)) := by
  refine pe_imp (pe_var hN hv hd hcd) fun σ H Q ⟨W, env, E, r⟩ => ?_
  unfold eBor at r
  cases e : env[i]? with
  | none => rw [e] at r; exact False.elim r
  | some s =>
    rw [e] at r
    cases s with
    | v p =>
      obtain ⟨x, b, e1, _, v, e2, rv⟩ := E.slot e
      exact ⟨v, by rw [e1, e2], r.now E.ho v (.inl rv)⟩
    | h p S =>
      obtain ⟨x, b, e1, _, ⟨v, e2, rv⟩, _⟩ := E.slot e
      exact ⟨v, by rw [e1, e2], r.now E.ho v (.inl rv)⟩
    | b p =>
      obtain ⟨x, b, e1, _, _, v, e2, rv⟩ := E.slot e
      exact ⟨v, by rw [e1, e2], r.now E.ho v (rv.toB E.st)⟩
    | o ps =>
      obtain ⟨x, b, e1, a, vs, _, e2, e3, e4, _, e6⟩ := E.slot e
      exact ⟨.ref a, by rw [e1, e2], r.now E.ho (.ref a) (.inr (.inl ⟨a, vs, ps, rfl, rfl, e3, .inl e4, e6⟩))⟩
    | d dt kvs =>
      obtain ⟨x, b, e1, a, _, e2, e3, _, e4⟩ := E.slot e
      exact ⟨.ref a, by rw [e1, e2], r.now E.ho (.ref a) (.inr (.inr ⟨a, dt, kvs, rfl, rfl, e3, e4.rd⟩))⟩
    | k ps =>
      obtain ⟨x, b, e1, _, la, ea, e2, vs, e3, e4, e5⟩ := E.slot e
      exact ⟨.ref la, by rw [e1, e2], r.now E.ho (.ref la) (RepQ.toB E.st (.inr (.inl ⟨_, vs, ps, rfl, rfl, e3, .inl e4, e5⟩)))⟩
    | kd t kvs =>
      obtain ⟨x, b, e1, _, la, ea, e2, e3⟩ := E.slot e
      exact ⟨.ref la, by rw [e1, e2], r.now E.ho (.ref la) (e3.toB E.st)⟩
    | _ => exact False.elim r
theorem ge_q (i : Nat) {x : Str} (hN : X.N[i]? = some x := by rfl) (hv : Vis X.env.scope x := by first | exact Or.inl rfl | exact Or.inr (Or.inl rfl) | exact Or.inr (Or.inr rfl)) (hd : (x == ("__debug__" : Str)) = false := by decide) (hcd : (x == ("__classdict__" : Str)) = false := by decide) : PE X (.Name x pos) (tQ Y (eQ i)) := by
  refine pe_imp (pe_var hN hv hd hcd) fun σ H Q ⟨W, env, E, r⟩ => ?_
  unfold eQ at r
  cases e : env[i]? with
  | none => rw [e] at r; exact False.elim r
  | some s =>
    rw [e] at r
    cases s with
    | v p =>
      obtain ⟨x, b, e1, _, v, e2, rv⟩ := E.slot e
      exact ⟨v, by rw [e1, e2], r.now E.ho v (.inl rv)⟩
    | h p S =>
      obtain ⟨x, b, e1, _, ⟨v, e2, rv⟩, _⟩ := E.slot e
      exact ⟨v, by rw [e1, e2], r.now E.ho v (.inl rv)⟩
    | b p =>
      obtain ⟨x, b, e1, _, _, v, e2, rv⟩ := E.slot e
      exact ⟨v, by rw [e1, e2], r.now E.ho v rv⟩
    | k ps =>
      obtain ⟨x, b, e1, _, la, ea, e2, vs, e3, e4, e5⟩ := E.slot e
      exact ⟨.ref la, by rw [e1, e2], r.now E.ho (.ref la) (.inr (.inl ⟨_, vs, ps, rfl, rfl, e3, .inl e4, e5⟩))⟩
    | _ => exact False.elim r
theorem ge_c {v : V} {p : PV} (h : PE X e (tC v)) (hr : ∀ O W, Rep O W p v) : PE X e (tP Y (eC p)) :=
  pe_imp h fun σ H Q ⟨W, env, E, r⟩ => r.now E.ho v (hr _ _)
theorem ge_int {i j} : PE X (.Constant (.int i) j pos) (tP Y (eC (.int i))) := ge_c pe_int fun _ _ => Rep.int_iff.mpr rfl
theorem ge_bl {i j} : PE X (.Constant (.bool i) j pos) (tP Y (eC (.bl i))) := ge_c pe_bl fun _ _ => Rep.bl_iff.mpr rfl
theorem ge_non {j} : PE X (.Constant .none j pos) (tP Y (eC .non)) := ge_c pe_non fun _ _ => Rep.non_iff.mpr rfl
theorem ge_str (s : List Nat) {x : Str} {j} (hx : x = tx s := by decide +kernel) (ho : okS s := by decide) : PE X (.Constant (.str x) j pos) (tP Y (eC (.str s))) := by
  subst hx
  exact ge_c pe_str fun _ _ => Rep.str_iff.mpr ⟨rfl, ho⟩
/-- a constant of the module -/
theorem ge_glob {p : PV} {x : Str} {v : V} {u : Value} (hg : Gl X x) (hm : X.mg x = some u) (r : RelV v u) (hr : ∀ O W, Rep O W p v) (hd : (x == ("__debug__" : Str)) = false := by decide) : PE X (.Name x pos) (tP Y (eC p)) := ge_c (pe_glob hg hm r hd) hr

/-- r does on the heap what h does on data -/
def R2S (O : ObS) (r : R2) (h : PV → PV → Option PV) : Prop := ∀ (W : Wd) (H : Hp) (x y : V) (p q z : PV) (Q : VK), Hold W H → RepB O W H p x → RepB O W H q y → h p q = some z → (∀ W' H' v, Stp W H W' H' → Rep O W' z v → Q v H') → r x y H Q
theorem t_op {r : R2} {h : PV → PV → Option PV} (hr : R2S Y.O r h) : ∀ σ H Q, tP Y (eOp h f g) σ H Q → tOp r (tB Y f) (tB Y g) σ H Q := by
  intro σ H Q ⟨W, env, E, k⟩
  refine ⟨W, env, E, (RP.bind E.ho k).mono fun W1 H1 p s1 k1 x rx => ?_⟩
  have E1 := E.step s1
  refine ⟨W1, env, E1, (RP.bind E1.ho k1).mono fun W2 H2 q s2 k2 y ry => ?_⟩
  obtain ⟨z, hz, kz⟩ := RP.ofO k2
  exact hr W2 H2 x y p q z Q (E1.step s2).ho (rx.step s2) ry hz fun W' H' v t rv => kz W' H' t v rv
theorem ge_op {op : Operator} {r : R2} {h : PV → PV → Option PV} (ho : OpR X (binaryOp op) r) (hr : R2S Y.O r h) (ha : PE X a (tB Y f)) (hb : PE X b (tB Y g)) : PE X (.BinOp a op b pos) (tP Y (eOp h f g)) :=
  pe_imp (pe_op ho ha hb) (t_op hr)
theorem ge_cmp {op : CmpOp} {r : R2} {h : PV → PV → Option PV} (ho : OpR X (compareOp op) r) (hr : R2S Y.O r h) (ha : PE X a (tB Y f)) (hb : PE X b (tB Y g)) (hm : behindInMarks op b = false) : PE X (.Compare a [op] [b] pos) (tP Y (eOp h f g)) :=
  pe_imp (pe_cmpR ho ha hb hm) (t_op hr)
/-- a truth as a test -/
theorem t_test : ∀ {t : TE}, (∀ σ H Q, tP Y f σ H Q → t σ H Q) → ∀ σ H Q, tT Y f σ H Q → tTest t σ H Q := by
  intro t ht σ H Q ⟨W, env, E, k⟩
  refine ht σ H _ ⟨W, env, E, k.mono fun W' H' p t' ⟨b, e, q⟩ x rx => ?_⟩
  subst e
  exact ⟨b, Rep.bl_iff.mp rx, q⟩
theorem gt_cmp {op : CmpOp} {r : R2} {h : PV → PV → Option PV} (ho : OpR X (compareOp op) r) (hr : R2S Y.O r h) (ha : PE X a (tB Y f)) (hb : PE X b (tB Y g)) (hm : behindInMarks op b = false) : PT X (.Compare a [op] [b] pos) (tT Y (eOp h f g)) :=
  pt_imp (pt_cmpR ho ha hb hm) (t_test (t_op hr))
theorem gt_val (h : PE X e (tP Y f)) (he : ∀ whole, isTrue e X.env whole = (do let v ← whole; standAt e.pos; holding [v] (truthy v)) := by intro _; rfl) : PT X e (tT Y f) := by
  refine pt_imp (pt_val h he) fun σ H Q ⟨W, env, E, k⟩ => ⟨W, env, E, k.mono fun W' H' p t' ⟨b, e, q⟩ x rx => ?_⟩
  subst e
  exact ⟨b, Rep.bl_iff.mp rx, q⟩
def R1S (O : ObS) (r : V → Hp → VK → Prop) (h : PV → Option PV) : Prop := ∀ (W : Wd) (H : Hp) (x : V) (p z : PV) (Q : VK), Hold W H → RepB O W H p x → h p = some z → (∀ W' H' v, Stp W H W' H' → Rep O W' z v → Q v H') → r x H Q
theorem ge_un {op : UnaryOp} {r : V → Hp → VK → Prop} {h : PV → Option PV} (ho : UnR X (unaryOp op) r) (hr : R1S Y.O r h) (ha : PE X a (tB Y f)) : PE X (.UnaryOp op a pos) (tP Y (eUn h f)) := by
  refine pe_imp (pe_un ho ha) fun σ H Q ⟨W, env, E, k⟩ => ⟨W, env, E, (RP.bind E.ho k).mono fun W1 H1 p s1 k1 x rx => ?_⟩
  obtain ⟨z, hz, kz⟩ := RP.ofO k1
  exact hr W1 H1 x p z Q (E.step s1).ho rx hz fun W' H' v t rv => kz W' H' t v rv
end
end JP

set_option Elab.async false
set_option linter.all false
set_option maxRecDepth 100000
namespace JP
open PySem L2
section
variable {O : ObS} {W : Wd} {H : Hp} {p : PV} {ps : List PV} {x : V}
theorem RepB.int {i : Int} (r : RepB O W H (.int i) x) : x = .int i := Rep.int_iff.mp (r.val (fun _ z => by cases z) fun _ _ z => by cases z)
theorem RepB.bl {i : Bool} (r : RepB O W H (.bl i) x) : x = .bl i := Rep.bl_iff.mp (r.val (fun _ z => by cases z) fun _ _ z => by cases z)
theorem RepB.non (r : RepB O W H .non x) : x = .non := Rep.non_iff.mp (r.val (fun _ z => by cases z) fun _ _ z => by cases z)
theorem RepB.str {s : List Nat} (r : RepB O W H (.str s) x) : x = .str (tx s) ∧ okS s := Rep.str_iff.mp (r.val (fun _ z => by cases z) fun _ _ z => by cases z)
theorem RepB.tup (r : RepB O W H (.tup ps) x) : ∃ a vs, x = .ref a ∧ TuR O W a vs ∧ RepL O W ps vs := Rep.tup_iff.mp (r.val (fun _ z => by cases z) fun _ _ z => by cases z)
theorem RepB.scr (r : RepB O W H (.scr ps) x) : ∃ a vs, x = .ref a ∧ ScR O W a vs ∧ RepL O W ps vs := Rep.scr_iff.mp (r.val (fun _ z => by cases z) fun _ _ z => by cases z)
theorem okS.app {s t : List Nat} (h : okS s) (g : okS t) : okS (s ++ t) := fun c hc => (List.mem_append.mp hc).elim (h c) (g c)
theorem okS.sub {s t : List Nat} (h : okS s) (g : ∀ c ∈ t, c ∈ s) : okS t := fun c hc => h c (g c hc)
theorem size_of {n : Nat} (h : n ≤ 1000000) : n ≤ sizeLine := Nat.le_trans h (by decide)
theorem size_lt {n : Nat} (h : n < 1000000) : n < sizeLine := Nat.lt_of_lt_of_le h (by decide)
end
section
variable {O : ObS}
theorem r2s_add {X : Cx} : ∃ r, OpR X (binaryOp .Add) r ∧ R2S O r pAdd := by
  refine ⟨_, op_add.or op_add_str, ?_⟩
  intro W H x y p q z Q h rx ry hz k
  cases p with
  | int i =>
    cases q with
    | int j =>
      cases hz
      rw [rx.int, ry.int]
      exact .inl ⟨i, j, rfl, rfl, k W H _ (Stp.refl h) (Rep.int_iff.mpr rfl)⟩
    | _ => cases hz
  | str s =>
    cases q with
    | str t =>
      dsimp only [pAdd] at hz
      by_cases hl : s.length + t.length ≤ 1000000
      · rw [if_pos hl] at hz
        cases hz
        obtain ⟨e1, o1⟩ := rx.str
        obtain ⟨e2, o2⟩ := ry.str
        rw [e1, e2]
        exact .inr ⟨tx s, tx t, rfl, rfl, by rw [tx_len, tx_len]; exact size_of hl, k W H _ (Stp.refl h) (Rep.str_iff.mpr ⟨by rw [tx_app], o1.app o2⟩)⟩
      · rw [if_neg hl] at hz; cases hz
    | _ => cases hz
  | _ => cases q <;> cases hz
/-- two ints -/
theorem r2s_int {C : Int → Int → Prop} {g : Int → Int → V} {h : PV → PV → Option PV} {gp : Int → Int → PV} (hh : ∀ p q z, h p q = some z → ∃ i j, p = .int i ∧ q = .int j ∧ C i j ∧ z = gp i j) (hg : ∀ O W i j, Rep O W (gp i j) (g i j)) : R2S O (rI C g) h := by
  intro W H x y p q z Q h0 rx ry hz k
  obtain ⟨i, j, e1, e2, c, e3⟩ := hh p q z hz
  subst e1; subst e2; subst e3
  rw [rx.int, ry.int]
  exact ⟨i, j, rfl, rfl, c, k W H _ (Stp.refl h0) (hg _ _ i j)⟩
theorem r2s_int0 {g : Int → Int → V} {h : PV → PV → Option PV} {gp : Int → Int → PV} (hh : ∀ p q z, h p q = some z → ∃ i j, p = .int i ∧ q = .int j ∧ z = gp i j) (hg : ∀ O W i j, Rep O W (gp i j) (g i j)) : R2S O (rI0 g) h := by
  intro W H x y p q z Q h0 rx ry hz k
  obtain ⟨i, j, e1, e2, e3⟩ := hh p q z hz
  subst e1; subst e2; subst e3
  rw [rx.int, ry.int]
  exact ⟨i, j, rfl, rfl, k W H _ (Stp.refl h0) (hg _ _ i j)⟩
theorem r2s_sub : R2S O (rI0 fun i j => .int (i - j)) pSub := r2s_int0 (gp := fun i j => .int (i - j)) (fun p q z h => by cases p <;> cases q <;> cases h <;> exact ⟨_, _, rfl, rfl, rfl⟩) fun _ _ _ _ => Rep.int_iff.mpr rfl
theorem r2s_gt : R2S O (rI0 fun i j => .bl (decide (j < i))) pGt := r2s_int0 (gp := fun i j => .bl (decide (j < i))) (fun p q z h => by cases p <;> cases q <;> cases h <;> exact ⟨_, _, rfl, rfl, rfl⟩) fun _ _ _ _ => Rep.bl_iff.mpr rfl
theorem r2s_ge : R2S O (rI0 fun i j => .bl (decide (j ≤ i))) pGe := r2s_int0 (gp := fun i j => .bl (decide (j ≤ i))) (fun p q z h => by cases p <;> cases q <;> cases h <;> exact ⟨_, _, rfl, rfl, rfl⟩) fun _ _ _ _ => Rep.bl_iff.mpr rfl
theorem r2s_mod : R2S O (rI (fun _ j => 0 < j) fun i j => .int (i % j)) pMod := r2s_int (gp := fun i j => .int (i % j)) (fun p q z h => by
  cases p with
  | int i =>
    cases q with
    | int j =>
      dsimp only [pMod] at h
      by_cases c : 0 < j
      · rw [if_pos c] at h
        cases h
        exact ⟨i, j, rfl, rfl, c, rfl⟩
      · rw [if_neg c] at h
        cases h
    | _ => cases h
  | _ => cases q <;> cases h) fun _ _ _ _ => Rep.int_iff.mpr rfl
theorem wide_of {a : Int} (h : wideI a = true) : a.natAbs < 2 ^ 4000 := of_decide_eq_true h
theorem small_of {a : Int} (h : smallI a = true) : -(2 ^ 64) < a ∧ a < 2 ^ 64 := of_decide_eq_true h
theorem r2s_div : R2S O (rI CDivW fun i j => .int (i / j)) pDiv := r2s_int (gp := fun i j => .int (i / j)) (fun p q z h => by
  cases p with
  | int i =>
    cases q with
    | int j =>
      dsimp only [pDiv] at h
      by_cases c : (0 < j && wideI j) = true
      · rw [if_pos c] at h
        cases h
        simp only [Bool.and_eq_true, decide_eq_true_eq] at c
        exact ⟨i, j, rfl, rfl, wide_div c.1 (wide_of c.2) (by decide) (by decide), rfl⟩
      · rw [if_neg c] at h
        cases h
    | _ => cases h
  | _ => cases q <;> cases h) fun _ _ _ _ => Rep.int_iff.mpr rfl
theorem r2s_pow : R2S O (rI CPow fun i j => .int (i ^ j.toNat)) pPow := r2s_int (gp := fun i j => .int (i ^ j.toNat)) (fun p q z h => by
  cases p with
  | int i =>
    cases q with
    | int j =>
      dsimp only [pPow] at h
      by_cases c : (0 ≤ j && j ≤ 1000 && smallI i) = true
      · rw [if_pos c] at h
        cases h
        simp only [Bool.and_eq_true, decide_eq_true_eq] at c
        have := small_of c.2
        exact ⟨i, j, rfl, rfl, ⟨c.1.1, by omega, by omega⟩, rfl⟩
      · rw [if_neg c] at h
        cases h
    | _ => cases h
  | _ => cases q <;> cases h) fun _ _ _ _ => Rep.int_iff.mpr rfl
theorem r2s_mul {X : Cx} : ∃ r, OpR X (binaryOp .Mult) r ∧ R2S O r pMul := by
  refine ⟨_, op_mul.or op_mulW, ?_⟩
  intro W H x y p q z Q h0 rx ry hz k
  cases p with
  | int i =>
    cases q with
    | int j =>
      dsimp only [pMul] at hz
      by_cases c : (smallI i || smallI j || (wideI i && wideI j)) = true
      · rw [if_pos c] at hz
        cases hz
        rw [rx.int, ry.int]
        simp only [Bool.or_eq_true, Bool.and_eq_true] at c
        rcases c with (c | c) | c
        · exact .inl ⟨i, j, rfl, rfl, .inl (small_of c), k W H _ (Stp.refl h0) (Rep.int_iff.mpr rfl)⟩
        · exact .inl ⟨i, j, rfl, rfl, .inr (small_of c), k W H _ (Stp.refl h0) (Rep.int_iff.mpr rfl)⟩
        · exact .inr ⟨i, j, rfl, rfl, wide_mul (wide_of c.1) (wide_of c.2) (by decide) (by decide) (by decide), k W H _ (Stp.refl h0) (Rep.int_iff.mpr rfl)⟩
      · rw [if_neg c] at hz
        cases hz
    | _ => cases hz
  | _ => cases q <;> cases hz
theorem r1s_neg : R1S O (rU fun i => .int (-i)) pNeg := by
  intro W H x p z Q h0 rx hz k
  cases p with
  | int i =>
    cases hz
    rw [rx.int]
    exact ⟨i, rfl, k W H _ (Stp.refl h0) (Rep.int_iff.mpr rfl)⟩
  | _ => cases hz

mutual
def toD : PV → PyData
  | .non => .none
  | .bl b => .bool b
  | .int i => .int i
  | .str s => .str (tx s)
  | .lst xs => .list (toDs xs)
  | .tup xs => .tuple (toDs xs)
  | _ => .none
def toDs : List PV → List PyData
  | [] => []
  | x :: xs => toD x :: toDs xs
end
mutual
theorem Rep.dp {W : Wd} {H : Hp} (h : Hold W H) : ∀ (p : PV) (x : V), datP p = true → Rep O W p x → Dp O.K H x (toD p) ∧ PyData.canLay0 (toD p) = true
  | .non, x, _, r => by
    rw [Rep.non_iff.mp r]
    simp only [toD]
    exact ⟨.non, rfl⟩
  | .bl b, x, _, r => by
    rw [Rep.bl_iff.mp r]
    simp only [toD]
    exact ⟨.bl b, rfl⟩
  | .int b, x, _, r => by
    rw [Rep.int_iff.mp r]
    simp only [toD]
    exact ⟨.int b, rfl⟩
  | .str s, x, _, r => by
    obtain ⟨e, o⟩ := Rep.str_iff.mp r
    rw [e]
    simp only [toD]
    refine ⟨.str _, ?_⟩
    show (tx s).cps.all (· < 0x110000) = true
    simp only [tx, List.all_toArray, List.all_eq_true, decide_eq_true_eq]
    exact o
  | .lst ps, x, d, r => by
    obtain ⟨a, vs, e, l, rl⟩ := Rep.lst_iff.mp r
    subst e
    obtain ⟨d1, d2⟩ := RepL.dp h ps vs (by simpa only [datP] using d) rl
    simp only [toD]
    exact ⟨.lst (l.sq h) d1, by simpa only [PyData.canLay0] using d2⟩
  | .tup ps, x, d, r => by
    obtain ⟨a, vs, e, l, rl⟩ := Rep.tup_iff.mp r
    subst e
    obtain ⟨d1, d2⟩ := RepL.dp h ps vs (by simpa only [datP] using d) rl
    simp only [toD]
    exact ⟨.tup (SqT.of (l.sq h)) d1, by simpa only [PyData.canLay0] using d2⟩
  | .dct _ _, _, d, _ => by simp [datP] at d
  | .ob _ _, _, d, _ => by simp [datP] at d
  | .er _ _, _, d, _ => by simp [datP] at d
  | .memo _ _, _, d, _ => by simp [datP] at d
  | .scr _, _, d, _ => by simp [datP] at d
theorem RepL.dp {W : Wd} {H : Hp} (h : Hold W H) : ∀ (ps : List PV) (vs : List V), datPs ps = true → RepL O W ps vs → DpAll O.K H vs (toDs ps) ∧ PyData.canLayAll0 (toDs ps) = true
  | [], vs, _, r => by
    rw [r.of_nil]
    simp only [toDs]
    exact ⟨.nil, rfl⟩
  | p :: ps, [], _, r => by simp only [RepL] at r; obtain ⟨_, _, e, _⟩ := r; cases e
  | p :: ps, v :: vs, d, r => by
    obtain ⟨r1, r2⟩ := RepL.cons_iff.mp r
    simp only [datPs, Bool.and_eq_true] at d
    obtain ⟨a1, a2⟩ := Rep.dp h p v d.1 r1
    obtain ⟨b1, b2⟩ := RepL.dp h ps vs d.2 r2
    simp only [toDs]
    exact ⟨.cons a1 b1, by simp only [PyData.canLayAll0, a2, b2, Bool.and_self]⟩
end
mutual
theorem dep_toD : ∀ p : PV, PyData.depth (toD p) = depP p
  | .non => rfl
  | .bl _ => rfl
  | .int _ => rfl
  | .str _ => rfl
  | .lst ps => by simp only [toD, PyData.depth, depP, dep_toDs ps]
  | .tup ps => by simp only [toD, PyData.depth, depP, dep_toDs ps]
  | .dct _ _ => rfl
  | .ob _ _ => rfl
  | .scr _ => rfl
  | .er _ _ => rfl
  | .memo _ _ => rfl
  | .loc _ => rfl
theorem dep_toDs : ∀ ps : List PV, PyData.depthAll (toDs ps) = depPs ps
  | [] => rfl
  | p :: ps => by simp only [toDs, PyData.depthAll, depPs, dep_toD p, dep_toDs ps]
end
theorem tx_beq (s t : List Nat) : (tx s == tx t) = (s == t) := by
  rw [Bool.eq_iff_iff, beq_iff_eq, beq_iff_eq]
  exact ⟨tx_inj, fun h => by rw [h]⟩
mutual
theorem eqv_toD : ∀ p q : PV, datP p = true → datP q = true → PyData.eqv (toD p) (toD q) = eqP p q
  | .non, q, _, d => by cases q <;> first | rfl | simp [datP] at d
  | .bl a, q, _, d => by cases q <;> first | rfl | simp [datP] at d
  | .int a, q, _, d => by cases q <;> first | rfl | simp [datP] at d
  | .str a, q, _, d => by
    cases q with
    | str b =>
      show (tx a == tx b) = (a == b)
      exact tx_beq a b
    | _ => first | rfl | simp [datP] at d
  | .lst a, q, d1, d => by
    cases q with
    | lst b =>
      simp only [toD, PyData.eqv, eqP]
      exact eqv_toDs a b (by simpa only [datP] using d1) (by simpa only [datP] using d)
    | _ => first | rfl | simp [datP] at d
  | .tup a, q, d1, d => by
    cases q with
    | tup b =>
      simp only [toD, PyData.eqv, eqP]
      exact eqv_toDs a b (by simpa only [datP] using d1) (by simpa only [datP] using d)
    | _ => first | rfl | simp [datP] at d
  | .dct _ _, _, d, _ => by simp [datP] at d
  | .ob _ _, _, d, _ => by simp [datP] at d
  | .scr _, _, d, _ => by simp [datP] at d
theorem eqv_toDs : ∀ ps qs : List PV, datPs ps = true → datPs qs = true → PyData.eqvAll (toDs ps) (toDs qs) = eqPs ps qs
  | [], [], _, _ => rfl
  | [], q :: qs, _, _ => rfl
  | p :: ps, [], _, _ => rfl
  | p :: ps, q :: qs, d1, d2 => by
    simp only [datPs, Bool.and_eq_true] at d1 d2
    simp only [toDs, PyData.eqvAll, eqPs, eqv_toD p q d1.1 d2.1, eqv_toDs ps qs d1.2 d2.2]
end
theorem RepB.dp {W : Wd} {H : Hp} {p : PV} {x : V} (h : Hold W H) (r : RepB O W H p x) (d : shp p = true) : Dp O.K H x (toD p) ∧ SeqAt.shaped (toD p) = true := by
  unfold shp at d
  simp only [Bool.and_eq_true, decide_eq_true_eq] at d
  have key : Dp O.K H x (toD p) ∧ PyData.canLay0 (toD p) = true := by
    rcases r with r | ⟨a, vs, ps, e1, e2, e3, e4, e5⟩ | ⟨a, t, kvs, e1, _⟩
    · exact Rep.dp h p x d.1 r
    · subst e1; subst e2
      obtain ⟨d1, d2⟩ := RepL.dp h ps vs (by simpa only [datP] using d.1) e5
      simp only [toD]
      exact ⟨.lst (SqL.of e3) d1, by simpa only [PyData.canLay0] using d2⟩
    · subst e1; simp [datP] at d
  refine ⟨key.1, ?_⟩
  unfold SeqAt.shaped
  rw [key.2, dep_toD]
  simpa using d.2
theorem r2s_eq : R2S O (rEqD O.K) pEq := by
  intro W H x y p q z Q h0 rx ry hz k
  unfold pEq at hz
  by_cases c : (shp p && shp q) = true
  · rw [if_pos c] at hz
    cases hz
    simp only [Bool.and_eq_true] at c
    obtain ⟨a1, a2⟩ := rx.dp h0 c.1
    obtain ⟨b1, b2⟩ := ry.dp h0 c.2
    have d1 : datP p = true := by have := c.1; unfold shp at this; simp only [Bool.and_eq_true] at this; exact this.1
    have d2 : datP q = true := by have := c.2; unfold shp at this; simp only [Bool.and_eq_true] at this; exact this.1
    exact ⟨toD p, toD q, a1, b1, a2, b2, k W H _ (Stp.refl h0) (Rep.bl_iff.mpr (by rw [eqv_toD p q d1 d2]))⟩
  · rw [if_neg c] at hz; cases hz
theorem r2s_ne : R2S O (rNeD O.K) pNe := by
  intro W H x y p q z Q h0 rx ry hz k
  unfold pNe at hz
  by_cases c : (shp p && shp q) = true
  · rw [if_pos c] at hz
    cases hz
    simp only [Bool.and_eq_true] at c
    obtain ⟨a1, a2⟩ := rx.dp h0 c.1
    obtain ⟨b1, b2⟩ := ry.dp h0 c.2
    have d1 : datP p = true := by have := c.1; unfold shp at this; simp only [Bool.and_eq_true] at this; exact this.1
    have d2 : datP q = true := by have := c.2; unfold shp at this; simp only [Bool.and_eq_true] at this; exact this.1
    exact ⟨toD p, toD q, a1, b1, a2, b2, k W H _ (Stp.refl h0) (Rep.bl_iff.mpr (by rw [eqv_toD p q d1 d2]))⟩
  · rw [if_neg c] at hz; cases hz
theorem RepB.isNon {W : Wd} {H : Hp} {p : PV} {x : V} (r : RepB O W H p x) : decide (x = .non) = isNon p := by
  rcases r with r | ⟨a, vs, ps, e1, e2, _⟩ | ⟨a, t, kvs, e1, e2, _⟩
  · cases p with
    | non => rw [Rep.non_iff.mp r]; rfl
    | bl b => rw [Rep.bl_iff.mp r]; rfl
    | int b => rw [Rep.int_iff.mp r]; rfl
    | str b => rw [(Rep.str_iff.mp r).1]; rfl
    | lst b => obtain ⟨a, vs, e, _⟩ := Rep.lst_iff.mp r; rw [e]; rfl
    | tup b => obtain ⟨a, vs, e, _⟩ := Rep.tup_iff.mp r; rw [e]; rfl
    | scr b => obtain ⟨a, vs, e, _⟩ := Rep.scr_iff.mp r; rw [e]; rfl
    | dct t b => obtain ⟨a, f, e, _⟩ := Rep.dct_iff.mp r; rw [e]; rfl
    | ob b c => obtain ⟨a, dx, vs, e, _⟩ := Rep.ob_iff.mp r; rw [e]; rfl
    | er b c => obtain ⟨a, dx, vs, e, _⟩ := Rep.er_iff.mp r; rw [e]; rfl
    | memo b c => obtain ⟨a, dx, e, _⟩ := Rep.memo_iff.mp r; rw [e]; rfl
    | loc b => obtain ⟨a, e, _⟩ := Rep.loc_iff.mp r; rw [e]; rfl
  · rw [e1, e2]; rfl
  · rw [e1, e2]; rfl
theorem op_isRB {X : Cx} : OpR X (compareOp .Is) (fun x y H Q => ∃ a b, x = .ref a ∧ y = .bl b ∧ Q (.bl false) H) := by
  intro pins s σ H x y v u Q I rx ry h
  obtain ⟨a, b, rfl, rfl, q⟩ := h
  cases rx
  cases (show u = Value.bool b from ry)
  exact wpAny_is_other rfl (by intro z; cases z) ⟨.bl false, H, I, rfl, q⟩
theorem r2s_is {X : Cx} : ∃ r, OpR X (compareOp .Is) r ∧ R2S O r pIs2 := by
  refine ⟨_, op_isN.or (op_isBl.or op_isRB), ?_⟩
  intro W H x y p q z Q h0 rx ry hz k
  cases q with
  | non =>
    have hz' : some (PV.bl (isNon p)) = some z := by cases p <;> exact hz
    cases hz'
    rw [ry.non]
    exact .inl ⟨rfl, k W H _ (Stp.refl h0) (Rep.bl_iff.mpr (by rw [rx.isNon]))⟩
  | bl b =>
    cases p with
    | bl a =>
      cases hz
      rw [rx.bl, ry.bl]
      exact .inr (.inl ⟨a, b, rfl, rfl, k W H _ (Stp.refl h0) (Rep.bl_iff.mpr (by cases a <;> cases b <;> rfl))⟩)
    | ob kk ps =>
      cases hz
      obtain ⟨a, dx, vs, e, _⟩ := Rep.ob_iff.mp (rx.val (fun _ z => by cases z) (fun _ _ z => by cases z))
      rw [e, ry.bl]
      exact .inr (.inr ⟨a, b, rfl, rfl, k W H _ (Stp.refl h0) (Rep.bl_iff.mpr rfl)⟩)
    | _ => cases hz
  | _ => cases p <;> cases hz
theorem r2s_ninS : R2S O (fun x y H Q => ∃ (c : Nat) (z : Str), x = .str ⟨#[c]⟩ ∧ y = .str z ∧ Q (.bl (!decide (c ∈ z.cps.toList))) H) pNinS := by
  intro W H x y p q z Q h0 rx ry hz k
  unfold pNinS at hz
  split at hz
  · rename_i c s
    cases hz
    rw [rx.str.1, ry.str.1]
    exact ⟨c, tx s, rfl, rfl, k W H _ (Stp.refl h0) (Rep.bl_iff.mpr (congrArg (fun b => V.bl (!b)) (decide_eq_decide.mpr (by simp [tx]))))⟩
  · cases hz
theorem atN_eq {α : Type} (xs : List α) (i : Int) (v : α) (h : atN xs i = some v) : atI xs i = some v := by
  unfold atN at h
  unfold atI ixN
  by_cases h0 : 0 ≤ i
  · rw [if_pos h0] at h ⊢
    have hl := (List.getElem?_eq_some_iff.mp h).1
    rw [if_pos (by omega)]
    exact h
  · rw [if_neg h0] at h ⊢
    by_cases h1 : -(xs.length : Int) ≤ i
    · rw [if_pos h1] at h ⊢
      exact h
    · rw [if_neg h1] at h; cases h
theorem atN_rep {W : Wd} {ps : List PV} {vs : List V} {i : Int} {z : PV} (r : RepL O W ps vs) (h : atN ps i = some z) : ∃ v, atN vs i = some v ∧ Rep O W z v := by
  unfold atN at h ⊢
  rw [← r.len]
  by_cases h0 : 0 ≤ i
  · rw [if_pos h0] at h ⊢
    exact r.get h
  · rw [if_neg h0] at h ⊢
    by_cases h1 : -(ps.length : Int) ≤ i
    · rw [if_pos h1] at h ⊢
      exact r.get h
    · rw [if_neg h1] at h; cases h
theorem r2s_ix : R2S O (rIx O.K) pIx := by
  intro W H x y p q z Q h0 rx ry hz k
  unfold pIx at hz
  split at hz
  · rename_i xs i
    obtain ⟨a, vs, e, ha, r⟩ := rx.lst h0
    obtain ⟨v, e2, rv⟩ := atN_rep r hz
    rw [e, ry.int]
    exact .inl ⟨a, vs, i, v, rfl, rfl, SqL.of ha, atN_eq _ _ _ e2, k W H _ (Stp.refl h0) rv⟩
  · rename_i xs i
    obtain ⟨a, vs, e, ha, r⟩ := rx.scr
    obtain ⟨v, e2, rv⟩ := atN_rep r hz
    rw [e, ry.int]
    exact .inl ⟨a, vs, i, v, rfl, rfl, ha.sq h0, atN_eq _ _ _ e2, k W H _ (Stp.refl h0) rv⟩
  · rename_i xs i
    obtain ⟨a, vs, e, ha, r⟩ := rx.tup
    obtain ⟨v, e2, rv⟩ := atN_rep r hz
    rw [e, ry.int]
    exact .inr (.inl ⟨a, vs, i, v, rfl, rfl, SqT.of (ha.sq h0), atN_eq _ _ _ e2, k W H _ (Stp.refl h0) rv⟩)
  · rename_i s i
    by_cases c : s.length ≤ 1000000
    · rw [if_pos c] at hz
      cases e2 : atN s i with
      | none => rw [e2] at hz; cases hz
      | some ch =>
        rw [e2] at hz
        cases hz
        obtain ⟨e1, o1⟩ := rx.str
        rw [e1, ry.int]
        have hm : ch ∈ s := by
          have := atI_get (atN_eq _ _ _ e2)
          obtain ⟨j, _, q, _⟩ := this
          exact List.mem_of_getElem? q
        exact .inr (.inr ⟨tx s, i, ch, rfl, rfl, by rw [tx_len]; exact size_of c, by show atI s.toArray.toList i = some ch; exact atN_eq _ _ _ e2, k W H _ (Stp.refl h0) (Rep.str_iff.mpr ⟨rfl, fun d hd => by simp at hd; subst hd; exact o1 _ hm⟩)⟩)
    · rw [if_neg c] at hz; cases hz
  · cases hz
end
end JP

set_option Elab.async false
set_option linter.all false
set_option maxRecDepth 100000
namespace JP
open PySem L2
section
variable {X : Cx} {Y : Cy} {e a b c : Expr} {es rest : List Expr} {f g k : EX} {pos p : Pos}
theorem ge_and (ha : PE X a (tP Y f)) (hb : PE X (.BoolOp .And (b :: rest) pos) (tP Y g)) : PE X (.BoolOp .And (a :: b :: rest) pos) (tP Y (eAnd f g)) := by
  refine pe_imp (pe_and ha hb) fun σ H Q ⟨W, env, E, r⟩ => ⟨W, env, E, (RP.bind E.ho r).mono fun W1 H1 q s1 k1 x rx => ?_⟩
  cases q with
  | bl d =>
    refine ⟨d, Rep.bl_iff.mp rx, ?_⟩
    cases d with
    | true => exact ⟨W1, env, E.step s1, k1⟩
    | false => exact k1.now (E.step s1).ho _ (Rep.bl_iff.mpr rfl)
  | _ => exact False.elim k1
theorem ge_or (ha : PE X a (tP Y f)) (hb : PE X (.BoolOp .Or (b :: rest) pos) (tP Y g)) : PE X (.BoolOp .Or (a :: b :: rest) pos) (tP Y (eOr f g)) := by
  refine pe_imp (pe_or ha hb) fun σ H Q ⟨W, env, E, r⟩ => ⟨W, env, E, (RP.bind E.ho r).mono fun W1 H1 q s1 k1 x rx => ?_⟩
  cases q with
  | bl d =>
    refine ⟨d, Rep.bl_iff.mp rx, ?_⟩
    cases d with
    | false => exact ⟨W1, env, E.step s1, k1⟩
    | true => exact k1.now (E.step s1).ho _ (Rep.bl_iff.mpr rfl)
  | _ => exact False.elim k1
theorem ge_one {op} (h : PE X a (tP Y f)) : PE X (.BoolOp op [a] pos) (tP Y f) := pe_one h
theorem ge_not (ha : PE X a (tP Y f)) : PE X (.UnaryOp .Not a pos) (tP Y (eNot f)) := by
  refine pe_imp (pe_not ha) fun σ H Q ⟨W, env, E, r⟩ => ⟨W, env, E, (RP.bind E.ho r).mono fun W1 H1 q s1 k1 x rx => ?_⟩
  cases q with
  | bl d => exact ⟨d, Rep.bl_iff.mp rx, k1.now (E.step s1).ho _ (Rep.bl_iff.mpr rfl)⟩
  | _ => exact False.elim k1
theorem gw_and (ha : PT X a (tT Y f)) (hb : PW X (.BoolOp .And (b :: rest) pos) (tT Y g)) : PW X (.BoolOp .And (a :: b :: rest) pos) (tT Y (eAnd f g)) := by
  refine pw_imp (pw_and ha hb) fun σ H Q ⟨W, env, E, r⟩ => ⟨W, env, E, (RP.bind E.ho r).mono fun W1 H1 q s1 k1 => ?_⟩
  cases q with
  | bl d =>
    refine ⟨d, rfl, ?_⟩
    cases d with
    | true => exact ⟨W1, env, E.step s1, k1⟩
    | false =>
      obtain ⟨b', e', q'⟩ := k1.now (E.step s1).ho
      cases e'
      exact q'
  | _ => exact False.elim k1
theorem gw_or (ha : PT X a (tT Y f)) (hb : PW X (.BoolOp .Or (b :: rest) pos) (tT Y g)) : PW X (.BoolOp .Or (a :: b :: rest) pos) (tT Y (eOr f g)) := by
  refine pw_imp (pw_or ha hb) fun σ H Q ⟨W, env, E, r⟩ => ⟨W, env, E, (RP.bind E.ho r).mono fun W1 H1 q s1 k1 => ?_⟩
  cases q with
  | bl d =>
    refine ⟨d, rfl, ?_⟩
    cases d with
    | false => exact ⟨W1, env, E.step s1, k1⟩
    | true =>
      obtain ⟨b', e', q'⟩ := k1.now (E.step s1).ho
      cases e'
      exact q'
  | _ => exact False.elim k1
theorem gw_and1 (ha : PT X a (tT Y f)) : PW X (.BoolOp .And [a] pos) (tT Y f) := pw_and1 ha
theorem gw_or1 (ha : PT X a (tT Y f)) : PW X (.BoolOp .Or [a] pos) (tT Y f) := pw_or1 ha
theorem gt_not (ha : PT X a (tT Y f)) : PT X (.UnaryOp .Not a pos) (tT Y (eNot f)) := by
  refine pt_imp (pt_not ha) fun σ H Q ⟨W, env, E, r⟩ => ⟨W, env, E, (RP.bind E.ho r).mono fun W1 H1 q s1 k1 => ?_⟩
  cases q with
  | bl d =>
    obtain ⟨b', e', q'⟩ := k1.now (E.step s1).ho
    cases e'
    exact ⟨d, rfl, q'⟩
  | _ => exact False.elim k1
theorem ge_ix (hK : Y.O.K = X.K) (ha : PE X a (tB Y f)) (hb : PE X b (tB Y g)) (hs : PlainIx b := by exact fun _ _ => rfl) : PE X (.Subscript a b pos) (tP Y (eOp pIx f g)) :=
  pe_imp (pe_ix ix_seq ha hb hs) (t_op (by rw [← hK]; exact r2s_ix))
def tOx (Y : Cy) (f : OX) : TO := fun σ H Q => ∃ W env, EnvR Y W H σ env ∧ RP Y σ W H (f env) fun W' H' o => Q o H'
theorem go_no : PO X none (tOx Y oNo) := po_imp po_none fun σ H Q ⟨W, env, E, r⟩ => r.now E.ho
theorem go_some (h : PE X e (tP Y f)) : PO X (some e) (tOx Y (oSome f)) := by
  refine po_imp (po_some h) fun σ H Q ⟨W, env, E, r⟩ => ⟨W, env, E, (RP.bind E.ho r).mono fun W1 H1 q s1 k1 x rx => ?_⟩
  cases q with
  | int i => exact ⟨i, Rep.int_iff.mp rx, k1.now (E.step s1).ho⟩
  | _ => exact False.elim k1
theorem loI_eq (n : Nat) (o : Option Int) : HT.sIx n 0 o = loI n o := by cases o <;> rfl
theorem hiI_eq (n : Nat) (o : Option Int) : HT.sIx n n o = hiI n o := by cases o <;> rfl
theorem cutN_rep {O : ObS} {W : Wd} {ps : List PV} {vs : List V} (lo hi : Option Int) (r : RepL O W ps vs) : RepL O W (cutN ps lo hi) (cutV vs lo hi) := by
  unfold cutN cutV
  rw [loI_eq, hiI_eq, ← r.len]
  exact (r.drop _).take _
variable {lo hi : Option Expr} {fl fh : OX} {p2 : Pos}
theorem ge_slS (ha : PE X e (tB Y f)) (hl : PO X lo (tOx Y fl)) (hu : PO X hi (tOx Y fh)) : PE X (.Subscript e (.Slice lo hi none p2) pos) (tP Y (eSlS f fl fh)) := by
  refine pe_imp (pe_slice sl_str ha hl hu) fun σ H Q ⟨W, env, E, r⟩ => ⟨W, env, E, (RP.bind E.ho r).mono fun W1 H1 q s1 k1 x rx => ?_⟩
  have E1 := E.step s1
  refine ⟨W1, env, E1, (RP.bind E1.ho k1).mono fun W2 H2 l s2 k2 => ?_⟩
  have E2 := E1.step s2
  refine ⟨W2, env, E2, (RP.bind E2.ho k2).mono fun W3 H3 u s3 k3 => ?_⟩
  have E3 := E2.step s3
  obtain ⟨z, hz, kz⟩ := RP.ofO k3
  cases q with
  | str s =>
    dsimp only [cutS] at hz
    by_cases c : s.length ≤ 1000000
    · rw [if_pos c] at hz
      cases hz
      obtain ⟨e1, o1⟩ := rx.str
      refine ⟨tx s, e1, by rw [tx_len]; exact size_of c, kz W3 H3 (Stp.refl E3.ho) _ (Rep.str_iff.mpr ⟨?_, o1.sub fun d hd => ?_⟩)⟩
      · unfold L2.cutS cutN
        rw [loI_eq, hiI_eq, tx_len]
        rfl
      · unfold cutN at hd
        exact List.mem_of_mem_drop (List.mem_of_mem_take hd)
    · rw [if_neg c] at hz; cases hz
  | _ => cases hz
theorem gf_sl (hK : Y.O.K = X.K) (ha : PE X e (tB Y f)) (hl : PO X lo (tOx Y fl)) (hu : PO X hi (tOx Y fh)) : PE X (.Subscript e (.Slice lo hi none p2) pos) (tF Y (lSl f fl fh)) := by
  refine pe_imp (pe_slice sl_list ha hl hu) fun σ H Q ⟨W, env, E, r⟩ => ⟨W, env, E, (RP.bind E.ho r).mono fun W1 H1 q s1 k1 x rx => ?_⟩
  have E1 := E.step s1
  refine ⟨W1, env, E1, (RP.bind E1.ho k1).mono fun W2 H2 l s2 k2 => ?_⟩
  have E2 := E1.step s2
  refine ⟨W2, env, E2, (RP.bind E2.ho k2).mono fun W3 H3 u s3 k3 => ?_⟩
  have E3 := E2.step s3
  obtain ⟨z, hz, kz⟩ := RP.ofO k3
  have key : ∃ a xs, x = .ref a ∧ SqL X.K H3 a xs ∧ RepL Y.O W3 z (cutV xs l u) := by
    unfold cutL at hz
    split at hz
    · cases hz
      obtain ⟨a, vs, e, ha, r⟩ := ((rx.step s2).step s3).lst E3.ho
      exact ⟨a, vs, e, SqL.of ha, cutN_rep _ _ r⟩
    · cases hz
      obtain ⟨a, vs, e, ha, r⟩ := ((rx.step s2).step s3).scr
      exact ⟨a, vs, e, by rw [← hK]; exact ha.sq E3.ho, cutN_rep _ _ r⟩
    · cases hz
  obtain ⟨a, xs, e1, e2, e3⟩ := key
  refine ⟨a, xs, e1, e2, fun q hq => ?_⟩
  have t : Stp W3 H3 W3 (upd H3 q (.lst (cutV xs l u))) := Stp.new0 E3.ho hq
  have nb : H q = none := (((s1.trans E.ho s2).trans E.ho s3)).back E.ho hq
  exact kz W3 _ t q _ nb (E3.ho.none hq) upd_same e3

variable {md : List Bool} {fa : AX}
theorem ga_nil : PA X [] (tAr Y [] aNil) := pa_imp pa_nil fun σ H Q ⟨W, env, E, r⟩ => r.now E.ho [] ⟨rfl, rfl⟩
theorem ArgR.step {O : ObS} {W W' : Wd} {H H' : Hp} (s : Stp W H W' H') : ∀ {md : List Bool} {ps : List PV} {vs : List V}, ArgR O W H md ps vs → ArgR O W' H' md ps vs
  | [], _, _, h => h
  | m :: ms, _, _, h => by
    obtain ⟨p, pr, v, vr, e1, e2, h1, h2⟩ := h
    refine ⟨p, pr, v, vr, e1, e2, ?_, ArgR.step s h2⟩
    cases m with
    | true => exact RepB.step s h1
    | false => exact Rep.mono s.le p h1
theorem ga_b (ha : PE X e (tB Y f)) (hr : PA X es (tAr Y md fa)) (hs : starEach (e :: es) X.env = (false, eval e X.env) :: starEach es X.env := by rfl) : PA X (e :: es) (tAr Y (true :: md) (aCons f fa)) := by
  refine pa_imp (pa_cons ha hr hs) fun σ H Q ⟨W, env, E, r⟩ => ⟨W, env, E, (RP.bind E.ho r).mono fun W1 H1 q s1 k1 x rx => ?_⟩
  have E1 := E.step s1
  refine ⟨W1, env, E1, (RP.bind E1.ho k1).mono fun W2 H2 ps s2 k2 xs rxs => ?_⟩
  exact k2.now (E1.step s2).ho (x :: xs) ⟨q, ps, x, xs, rfl, rfl, rx.step s2, rxs⟩
theorem ga_v (ha : PE X e (tP Y f)) (hr : PA X es (tAr Y md fa)) (hs : starEach (e :: es) X.env = (false, eval e X.env) :: starEach es X.env := by rfl) : PA X (e :: es) (tAr Y (false :: md) (aCons f fa)) := by
  refine pa_imp (pa_cons ha hr hs) fun σ H Q ⟨W, env, E, r⟩ => ⟨W, env, E, (RP.bind E.ho r).mono fun W1 H1 q s1 k1 x rx => ?_⟩
  have E1 := E.step s1
  refine ⟨W1, env, E1, (RP.bind E1.ho k1).mono fun W2 H2 ps s2 k2 xs rxs => ?_⟩
  exact k2.now (E1.step s2).ho (x :: xs) ⟨q, ps, x, xs, rfl, rfl, rx.mono s2.le, rxs⟩
theorem ArgR.len {O : ObS} {W : Wd} {H : Hp} : ∀ {md : List Bool} {ps : List PV} {vs : List V}, ArgR O W H md ps vs → vs.length = md.length ∧ ps.length = md.length
  | [], _, _, ⟨h1, h2⟩ => by rw [h1, h2]; exact ⟨rfl, rfl⟩
  | m :: ms, _, _, h => by
    obtain ⟨p, pr, v, vr, e1, e2, _, h2⟩ := h
    have := h2.len
    rw [e1, e2, List.length_cons, List.length_cons, List.length_cons, this.1, this.2]
    exact ⟨rfl, rfl⟩
theorem ArgR.all {O : ObS} {W : Wd} {H : Hp} : ∀ {md : List Bool} {ps : List PV} {vs : List V}, md.all (!·) = true → ArgR O W H md ps vs → RepL O W ps vs
  | [], _, _, _, ⟨h1, h2⟩ => by rw [h1, h2]; exact RepL.nil
  | m :: ms, _, _, hm, h => by
    obtain ⟨p, pr, v, vr, e1, e2, h1, h2⟩ := h
    simp only [List.all_cons, Bool.and_eq_true] at hm
    cases m with
    | true => exact absurd hm.1 (by decide)
    | false =>
      rw [e1, e2]
      exact RepL.cons h1 (ArgR.all hm.2 h2)
theorem ge_tup {x1} (h : PA X es (tAr Y md fa)) (hm : md.all (!·) = true := by rfl) (hl : md.length ≤ 1000000 := by decide) : PE X (.Tuple es x1 pos) (tP Y (eTup fa)) := by
  refine pe_imp (pe_tup h) fun σ H Q ⟨W, env, E, r⟩ => ⟨W, env, E, (RP.bind E.ho r).mono fun W1 H1 ps s1 k1 xs rx => ?_⟩
  have E1 := E.step s1
  refine ⟨by rw [rx.len.1]; exact size_of hl, fun q hq => ?_⟩
  exact k1 (putW W1 q (.tup xs)) _ (Stp.new E1.ho hq) (.ref q) (Rep.fixT (E1.ho.none hq) (ArgR.all hm rx))
theorem RP.later {α : Type} {σ : St} {W : Wd} {H : Hp} {r : R α} {k : Wd → Hp → α → Prop} (h0 : Hold W H) (h : RP Y σ W H r k) : RP Y σ W H r fun W1 H1 a => ∀ W2 H2, Stp W1 H1 W2 H2 → k W2 H2 a := by
  cases r with
  | ok a => exact fun W' H' t W2 H2 t2 => h W2 H2 (t.trans h0 t2)
  | ex e => exact h
  | bad => exact h
theorem gf_lst (h : PA X es (tAr Y md fa)) (hm : md.all (!·) = true := by rfl) (hl : md.length ≤ 1000000 := by decide) : PE X (.List es pos) (tF Y fa) := by
  refine pe_imp (pe_lst h) fun σ H Q ⟨W, env, E, r⟩ => ⟨W, env, E, (RP.later E.ho r).mono fun W1 H1 ps s1 k1 xs rx => ?_⟩
  have E1 := E.step s1
  refine ⟨by rw [rx.len.1]; exact size_of hl, fun q hq => ?_⟩
  exact k1 W1 _ (Stp.new0 E1.ho hq) q xs (s1.back E.ho hq) (E1.ho.none hq) upd_same (ArgR.all hm rx)

def CRS (O : ObS) (r : List V → Hp → VK → Prop) (md : List Bool) (h : List PV → Option PV) : Prop := ∀ (W : Wd) (H : Hp) (ps : List PV) (xs : List V) (z : PV) (Q : VK), Hold W H → ArgR O W H md ps xs → h ps = some z → (∀ W' H' v, Stp W H W' H' → Rep O W' z v → Q v H') → r xs H Q
def CRF (O : ObS) (r : List V → Hp → VK → Prop) (md : List Bool) (h : List PV → Option (List PV)) : Prop := ∀ (W : Wd) (H : Hp) (ps : List PV) (xs : List V) (z : List PV) (Q : VK), Hold W H → ArgR O W H md ps xs → h ps = some z → (∀ W' H' a vs, Stp W H W' H' → H a = none → W' a = none → H' a = some (.lst vs) → RepL O W' z vs → Q (.ref a) H') → r xs H Q
variable {x : Str} {id T : String} {r : List V → Hp → VK → Prop}
theorem t_cb {h : List PV → Option PV} (hr : CRS Y.O r md h) : ∀ σ H Q, tP Y (eCB h fa) σ H Q → tCB r (tAr Y md fa) σ H Q := by
  intro σ H Q ⟨W, env, E, k⟩
  refine ⟨W, env, E, (RP.bind E.ho k).mono fun W1 H1 ps s1 k1 xs rx => ?_⟩
  obtain ⟨z, hz, kz⟩ := RP.ofO k1
  exact hr W1 H1 ps xs z Q (E.step s1).ho rx hz fun W' H' v t rv => kz W' H' t v rv
theorem t_cbF {h : List PV → Option (List PV)} (hr : CRF Y.O r md h) : ∀ σ H Q, tF Y (lCB h fa) σ H Q → tCB r (tAr Y md fa) σ H Q := by
  intro σ H Q ⟨W, env, E, k⟩
  refine ⟨W, env, E, (RP.bind E.ho k).mono fun W1 H1 ps s1 k1 xs rx => ?_⟩
  obtain ⟨z, hz, kz⟩ := RP.ofO k1
  exact hr W1 H1 ps xs z Q (E.step s1).ho rx hz fun W' H' a vs t n w h' rl => kz W' H' t a vs (s1.back E.ho n) w h' rl
theorem ge_callB {h : List PV → Option PV} (hc : CallR X (.builtin id) r) (hr : CRS Y.O r md h) (hg : Gl X x) (hm : X.mg x = none) (hv : bootBuiltins x = some (.builtin id)) (ha : PA X (e :: es) (tAr Y md fa)) (hn : x ≠ "__name__" := by decide) (hdb : (x == ("__debug__" : Str)) = false := by decide) (he : starEach (e :: es) X.env = (false, eval e X.env) :: starEach es X.env := by rfl) (hpl : (backTo pos (starEach es X.env)).any (·.1) = false := by rfl) :
    PE X (.Call (.Name x p) (e :: es) [] pos) (tP Y (eCB h fa)) := pe_imp (pe_callB hc hg hm hv ha hn hdb he hpl) (t_cb hr)
theorem ge_callT {h : List PV → Option PV} (hc : CallR X (.type T) r) (hr : CRS Y.O r md h) (hg : Gl X x) (hm : X.mg x = none) (hv : bootBuiltins x = some (.type T)) (ha : PA X (e :: es) (tAr Y md fa)) (hn : x ≠ "__name__" := by decide) (hdb : (x == ("__debug__" : Str)) = false := by decide) (he : starEach (e :: es) X.env = (false, eval e X.env) :: starEach es X.env := by rfl) (hpl : (backTo pos (starEach es X.env)).any (·.1) = false := by rfl) :
    PE X (.Call (.Name x p) (e :: es) [] pos) (tP Y (eCB h fa)) := pe_imp (pe_callTy hc hg hm hv ha hn hdb he hpl) (t_cb hr)
theorem gf_callT {h : List PV → Option (List PV)} (hc : CallR X (.type T) r) (hr : CRF Y.O r md h) (hg : Gl X x) (hm : X.mg x = none) (hv : bootBuiltins x = some (.type T)) (ha : PA X (e :: es) (tAr Y md fa)) (hn : x ≠ "__name__" := by decide) (hdb : (x == ("__debug__" : Str)) = false := by decide) (he : starEach (e :: es) X.env = (false, eval e X.env) :: starEach es X.env := by rfl) (hpl : (backTo pos (starEach es X.env)).any (·.1) = false := by rfl) :
    PE X (.Call (.Name x p) (e :: es) [] pos) (tF Y (lCB h fa)) := pe_imp (pe_callTy hc hg hm hv ha hn hdb he hpl) (t_cbF hr)
end
section
variable {O : ObS}
theorem ArgR.one {W : Wd} {H : Hp} {ps : List PV} {xs : List V} (h : ArgR O W H [true] ps xs) : ∃ p x, ps = [p] ∧ xs = [x] ∧ RepB O W H p x := by
  obtain ⟨p, pr, v, vr, e1, e2, h1, e3, e4⟩ := h
  subst e3; subst e4
  exact ⟨p, v, e1, e2, h1⟩
theorem ArgR.two {W : Wd} {H : Hp} {ps : List PV} {xs : List V} (h : ArgR O W H [true, true] ps xs) : ∃ p q x y, ps = [p, q] ∧ xs = [x, y] ∧ RepB O W H p x ∧ RepB O W H q y := by
  obtain ⟨p, pr, v, vr, e1, e2, h1, h2⟩ := h
  obtain ⟨q, y, e3, e4, h3⟩ := h2.one
  subst e3; subst e4
  exact ⟨p, q, v, y, e1, e2, h1, h3⟩
theorem crs_len {X : Cx} (hK : O.K = X.K) : CRS O (fun xs H Q => ∃ x n, xs = [x] ∧ LenV X.K x H n ∧ Q (.int n) H) [true] (on1 pLen) := by
  intro W H ps xs z Q h0 ha hz k
  obtain ⟨p, x, e1, e2, r⟩ := ha.one
  subst e1; subst e2
  have hz : pLen p = some z := hz
  cases p with
  | str s =>
    dsimp only [pLen] at hz
    by_cases c : s.length ≤ 1000000
    · rw [if_pos c] at hz
      cases hz
      rw [r.str.1]
      exact ⟨_, s.length, rfl, ⟨by rw [tx_len]; exact size_of c, by rw [tx_len]⟩, k W H _ (Stp.refl h0) (Rep.int_iff.mpr rfl)⟩
    · rw [if_neg c] at hz; cases hz
  | lst l =>
    cases hz
    obtain ⟨a, vs, e, h, rl⟩ := r.lst h0
    rw [e]
    exact ⟨_, l.length, rfl, .inl ⟨vs, SqL.of h, rl.len⟩, k W H _ (Stp.refl h0) (Rep.int_iff.mpr rfl)⟩
  | scr l =>
    cases hz
    obtain ⟨a, vs, e, h, rl⟩ := r.scr
    rw [e]
    exact ⟨_, l.length, rfl, .inl ⟨vs, by rw [← hK]; exact h.sq h0, rl.len⟩, k W H _ (Stp.refl h0) (Rep.int_iff.mpr rfl)⟩
  | tup l =>
    cases hz
    obtain ⟨a, vs, e, h, rl⟩ := r.tup
    rw [e]
    exact ⟨_, l.length, rfl, .inr ⟨vs, SqT.of (h.sq h0), rl.len⟩, k W H _ (Stp.refl h0) (Rep.int_iff.mpr rfl)⟩
  | _ => cases hz
theorem crs_max2 : CRS O (fun xs H Q => ∃ i j, xs = [.int i, .int j] ∧ Q (.int (if j > i then j else i)) H) [true, true] (on2 pMax2) := by
  intro W H ps xs z Q h0 ha hz k
  obtain ⟨p, q, x, y, e1, e2, r1, r2⟩ := ha.two
  subst e1; subst e2
  cases p with
  | int i =>
    cases q with
    | int j =>
      cases hz
      rw [r1.int, r2.int]
      exact ⟨i, j, rfl, k W H _ (Stp.refl h0) (Rep.int_iff.mpr rfl)⟩
    | _ => cases hz
  | _ => cases q <;> cases hz
end
theorem vals_of_get : ∀ {xs : List V} {us : List Value}, xs.length = us.length → (∀ (i : Nat) x u, xs[i]? = some x → us[i]? = some u → RelV x u) → Vals xs us
  | [], [], _, _ => .nil
  | [], _ :: _, h, _ => by simp at h
  | _ :: _, [], h, _ => by simp at h
  | x :: xs, u :: us, h, k => .cons (k 0 x u rfl rfl) (vals_of_get (by simpa using h) fun i y w e1 e2 => k (i + 1) y w (by simpa using e1) (by simpa using e2))
theorem call_listS {X : Cx} (hc : X.calm = true) : CallR X (.type "list") (fun xs H Q => ∃ z : Str, xs = [.str z] ∧ z.length ≤ sizeLine ∧ ∀ l, H l = none → Q (.ref l) (upd H l (.lst (z.cps.toList.map fun c => V.str ⟨#[c]⟩)))) := by
  intro pins s σ H xs us Q I r h
  obtain ⟨z, e, hz, q⟩ := h
  subst e
  obtain ⟨u, rfl, t, rfl⟩ := vals1 r
  refine PySem.call_list_str (I.ok.hd hc) z t (fun h' tk acc c' hk hS hi => ?_) hz
  have hv : Vals (z.cps.toList.map fun c => V.str ⟨#[c]⟩) acc.toList := by
    refine vals_of_get (by simp [hi.1]) fun i x w e1 e2 => ?_
    obtain ⟨c, t', e3, e4⟩ := hi.2 i w (by simpa using e2)
    rw [List.getElem?_map] at e1
    have e5 : z.cps.toList[i]? = some c := by simpa using e3
    rw [e5] at e1
    cases e1
    exact ⟨t', e4⟩
  have ob : ObjOk X.prog X.w (upd H s.heap.objs.size (.lst (z.cps.toList.map fun c => V.str ⟨#[c]⟩))) h' s.heap.objs.size (.lst (z.cps.toList.map fun c => V.str ⟨#[c]⟩)) :=
    ⟨by simpa [Str.length] using hz, acc.toList, c', hv, by simpa using hS⟩
  exact ⟨.ref s.heap.objs.size, _, I.laid (t' := tk) hk (Nat.le_refl _) ob, rfl, q _ (I.hok.fresh (Nat.le_refl _))⟩
section
variable {O : ObS}
theorem crf_list {X : Cx} (hK : O.K = X.K) (hc : X.calm = true) : ∃ r, CallR X (.type "list") r ∧ CRF O r [true] (on1 lOf) := by
  refine ⟨fun xs H Q => (∃ p ys, xs = [.ref p] ∧ (SqL X.K H p ys ∨ SqT X.K H p ys) ∧ ∀ l, H l = none → Q (.ref l) (upd H l (.lst ys))) ∨ (∃ z : Str, xs = [.str z] ∧ z.length ≤ sizeLine ∧ ∀ l, H l = none → Q (.ref l) (upd H l (.lst (z.cps.toList.map fun c => V.str ⟨#[c]⟩)))), ?_, ?_⟩
  · intro pins s σ H xs us Q I r h
    rcases h with h | h
    · exact call_list_of pins s σ H xs us Q I r h
    · exact call_listS hc pins s σ H xs us Q I r h
  · intro W H ps xs z Q h0 ha hz k
    obtain ⟨p, x, e1, e2, r⟩ := ha.one
    subst e1; subst e2
    have hz : lOf p = some z := hz
    cases p with
    | lst l =>
      cases hz
      obtain ⟨a, vs, e, h, rl⟩ := r.lst h0
      rw [e]
      exact .inl ⟨a, vs, rfl, .inl (SqL.of h), fun q hq => k W _ q vs (Stp.new0 h0 hq) hq (h0.none hq) upd_same rl⟩
    | tup l =>
      cases hz
      obtain ⟨a, vs, e, h, rl⟩ := r.tup
      rw [e]
      exact .inl ⟨a, vs, rfl, .inr (SqT.of (h.sq h0)), fun q hq => k W _ q vs (Stp.new0 h0 hq) hq (h0.none hq) upd_same rl⟩
    | scr l =>
      cases hz
      obtain ⟨a, vs, e, h, rl⟩ := r.scr
      rw [e]
      exact .inl ⟨a, vs, rfl, .inl (by rw [← hK]; exact h.sq h0), fun q hq => k W _ q vs (Stp.new0 h0 hq) hq (h0.none hq) upd_same rl⟩
    | str s =>
      dsimp only [lOf] at hz
      by_cases c : s.length ≤ 1000000
      · rw [if_pos c] at hz
        cases hz
        obtain ⟨e3, o3⟩ := r.str
        rw [e3]
        refine .inr ⟨tx s, rfl, by rw [tx_len]; exact size_of c, fun q hq => k W _ q _ (Stp.new0 h0 hq) hq (h0.none hq) upd_same ?_⟩
        show RepL O W (s.map fun c => PV.str [c]) (s.toArray.toList.map fun c => V.str ⟨#[c]⟩)
        have key : ∀ t : List Nat, okS t → RepL O W (t.map fun c => PV.str [c]) (t.map fun c => V.str ⟨#[c]⟩) := by
          intro t
          induction t with
          | nil => exact fun _ => RepL.nil
          | cons c t ih => exact fun o => RepL.cons (Rep.str_iff.mpr ⟨rfl, fun d hd => by simp at hd; subst hd; exact o _ List.mem_cons_self⟩) (ih fun d hd => o d (List.mem_cons_of_mem _ hd))
        simpa using key s o3
      · rw [if_neg c] at hz; cases hz
    | _ => cases hz
/-- the type of a value, a dict that is walked, too -/
def TyZ (K : PySem.W.Frag) (H : Hp) (x : V) (t : Value) : Prop := TyX K H x t ∨ ∃ a ob ks, x = .ref a ∧ H a = some (.frz ob (.dT ks)) ∧ t = .type "dict"
theorem isi_all {X : Cx} : CallR X (.builtin "isinstance") fun xs H Q => ∃ (y k : V) (ty uc : Value) (ans : Bool), xs = [y, k] ∧ ClsV k uc ∧ TyZ X.K H y ty ∧ PySem.W.kitOne X.K ty uc = some ans ∧ Q (.bl ans) H := by
  rintro pins s σ H xs us Q I rel ⟨y, k, ty, uc, ans, rfl, hk, hz, he, hq⟩
  rcases hz with hz | ⟨a, ob, ks, rfl, ha, rfl⟩
  · exact call_isi pins s σ H _ us Q I rel ⟨y, k, ty, uc, ans, rfl, hk, hz, he, hq⟩
  · obtain ⟨w1, w2, rfl, g1, g2⟩ := vals2 rel
    obtain rfl := hk.eq g2
    cases (show w1 = Value.ref a from g1)
    obtain ⟨_, _, _, _, _, o, _, _, m1, m2, _⟩ := (show ObjOk X.prog X.w H s.heap a (.frz ob (.dT ks)) from I.hok a _ ha)
    exact PySem.W.kia_one PySem.W.kitx_dict I.kIn ⟨o, m1, m2.1⟩ he (fun z => nomatch z) fun tk => ⟨.bl ans, H, I.tok tk, rfl, hq⟩
theorem kit_all : ∀ n ∈ ["NoneType", "bool", "int", "str", "list", "tuple", "dict"], ∀ c ∈ ["int", "bool", "str", "list", "tuple", "dict"], kitB n c = some (isTyN c n) := by decide +kernel
theorem RepB.ty {W : Wd} {H : Hp} {p : PV} {x : V} (h0 : Hold W H) (r : RepB O W H p x) (t : tyP p = true) : TyZ O.K H x (.type (tyN p)) ∧ tyN p ∈ ["NoneType", "bool", "int", "str", "list", "tuple", "dict"] := by
  cases p with
  | non => rw [r.non]; exact ⟨.inl (.base .non), by simp [tyN]⟩
  | bl b => rw [r.bl]; exact ⟨.inl (.base (.bl b)), by simp [tyN]⟩
  | int i => rw [r.int]; exact ⟨.inl (.base (.int i)), by simp [tyN]⟩
  | str s => rw [r.str.1]; exact ⟨.inl (.base (.str _)), by simp [tyN]⟩
  | lst l =>
    obtain ⟨a, vs, e, h, rl⟩ := r.lst h0
    rw [e]
    exact ⟨.inl (.base (.lst h)), by simp [tyN]⟩
  | tup l =>
    obtain ⟨a, vs, e, h, rl⟩ := r.tup
    rw [e]
    exact ⟨.inl (.base (.tup (h.sq h0))), by simp [tyN]⟩
  | dct t' l =>
    obtain ⟨a, e, d⟩ := r.dct h0
    rw [e]
    rcases d with ⟨_, ks, q1, _⟩ | ⟨_, ks, q1, _⟩
    · rcases q1 with q1 | ⟨od, q1⟩
      · exact ⟨.inl (.base (.dK q1)), by simp [tyN]⟩
      · exact ⟨.inl (.fDict q1), by simp [tyN]⟩
    · rcases q1 with q1 | ⟨od, q1⟩
      · exact ⟨.inl (.base (.dT q1)), by simp [tyN]⟩
      · exact ⟨.inr ⟨a, od, ks, rfl, q1, rfl⟩, by simp [tyN]⟩
  | ob _ _ => cases t
  | scr _ => cases t
  | er _ _ => cases t
  | memo _ _ => cases t
  | loc _ => cases t
end
section
variable {X : Cx} {Y : Cy} {a b : Expr} {f : EX} {pos p pb : Pos}
theorem ge_isi (t : String) {xt : Str} (hK : Y.O.K = X.K) (hg : Gl X "isinstance") (hm : X.mg "isinstance" = none) (hgT : Gl X xt) (hmT : X.mg xt = none) (hvT : bootBuiltins xt = some (.type t)) (ha : PE X a (tB Y f)) (ht : t ∈ ["int", "bool", "str", "list", "tuple", "dict"] := by decide)
    (hn : xt ≠ "__name__" := by decide) (hd : (xt == ("__debug__" : Str)) = false := by decide) (he : starEach [a, .Name xt pb] X.env = (false, eval a X.env) :: starEach [.Name xt pb] X.env := by rfl) (hpl : (backTo pos (starEach [.Name xt pb] X.env)).any (·.1) = false := by rfl) :
    PE X (.Call (.Name "isinstance" p) [a, .Name xt pb] [] pos) (tP Y (eUn (pIsi t) f)) := by
  refine pe_imp (pe_callB isi_all hg hm (by decide +kernel) (pa_cons ha (pa_cons (pe_bltn hgT hmT hvT (show RelV (.ty t) (.type t) from rfl) hn hd) pa_nil (by rfl)) he) (by decide) (by decide) he hpl) fun σ H Q ⟨W, env, E, r⟩ => ⟨W, env, E, (RP.bind E.ho r).mono fun W1 H1 q s1 k1 x rx => ?_⟩
  have E1 := E.step s1
  obtain ⟨z, hz, kz⟩ := RP.ofO k1
  unfold pIsi at hz
  by_cases c : tyP q = true
  · rw [if_pos c] at hz
    cases hz
    obtain ⟨ty, hk⟩ := rx.ty E1.ho c
    refine ⟨x, .ty t, .type (tyN q), .type t, isTy t q, rfl, .ty t, by rw [← hK]; exact ty, kit_ty (kit_all _ hk t ht), kz W1 H1 (Stp.refl E1.ho) _ (Rep.bl_iff.mpr rfl)⟩
  · rw [if_neg c] at hz; cases hz
end
end JP

set_option Elab.async false
set_option linter.all false
set_option maxRecDepth 100000
namespace JP
open PySem L2
theorem RepL.rev {O : ObS} {W : Wd} : ∀ {ps : List PV} {vs : List V}, RepL O W ps vs → RepL O W ps.reverse vs.reverse
  | [], vs, h => by rw [h.of_nil]; exact RepL.nil
  | p :: ps, [], h => by simp only [RepL] at h; obtain ⟨_, _, e, _⟩ := h; cases e
  | p :: ps, v :: vs, h => by
    rw [List.reverse_cons, List.reverse_cons]
    exact (RepL.rev (RepL.cons_iff.mp h).2).app (RepL.cons (RepL.cons_iff.mp h).1 RepL.nil)
def RC {α : Type} (O : ObS) (W : Wd) (H : Hp) (r : R α) (k : Wd → Hp → α → Prop) (E : XK) : Prop :=
  match r with
  | .ok a => ∀ W' H', Stp W H W' H' → k W' H' a
  | .ex e => ∀ W' H' cls d, Stp W H W' H' → ExR O W' cls d e → E cls d H'
  | .bad => False
def spP (O : ObS) (md : List Bool) (m : List PV → R PV) : Sp := fun vs H Q E => ∃ W ps, Hold W H ∧ ArgR O W H md ps vs ∧ RC O W H (m ps) (fun W' H' p => ∀ x, Rep O W' p x → Q x H') E
def spF (O : ObS) (md : List Bool) (m : List PV → R (List PV)) : Sp := fun vs H Q E => ∃ W ps, Hold W H ∧ ArgR O W H md ps vs ∧ RC O W H (m ps) (fun W' H' qs => ∀ a vs, H a = none → W' a = none → H' a = some (.lst vs) → RepL O W' qs vs → Q (.ref a) H') E
theorem spP.len {O : ObS} {md : List Bool} {m : List PV → R PV} {vs : List V} {H : Hp} {Q : VK} {E : XK} (h : spP O md m vs H Q E) : vs.length = md.length := by
  obtain ⟨W, ps, _, h, _⟩ := h
  exact h.len.1
theorem spF.len {O : ObS} {md : List Bool} {m : List PV → R (List PV)} {vs : List V} {H : Hp} {Q : VK} {E : XK} (h : spF O md m vs H Q E) : vs.length = md.length := by
  obtain ⟨W, ps, _, h, _⟩ := h
  exact h.len.1
/-- the def of that name keeps its promise, at level k -/
def GFn (P : Program) (w : World) (K : PySem.W.Frag) (mg : Str → Option Value) (base : Heap) (x : Str) (k : Nat) (sp : Sp) : Prop :=
  ∃ (f : Addr) (fd : FuncData) (ps : List Str), FnOk P w K mg base (L2.CX P w) k f fd ps sp ∧ mg x = some (.ref f) ∧ PySem.W.keepIn K (.ref f) = true ∧ Binds K fd ps []
/-- the method m of the class at C -/
def GMt (P : Program) (w : World) (K : PySem.W.Frag) (mg : Str → Option Value) (base : Heap) (C : Addr) (m : Str) (k : Nat) (sp : Sp) : Prop :=
  ∃ (f : Addr) (fd : FuncData) (ps : List Str), FnOk P w K mg base (L2.CX P w) k f fd ps sp ∧ Meth K C m f ∧ Binds K fd ps []
section
variable {X : Cx} {Y : Cy} {e o : Expr} {es : List Expr} {f fo : EX} {fa : AX} {pos p apos : Pos} {md : List Bool} {x m : Str} {k : Nat}
theorem RP.call {α : Type} {σ : St} {W : Wd} {H : Hp} {r : R α} {q : Wd → Hp → α → Prop} (h : RP Y σ W H r q) : RC Y.O W H r q (WE Y.Wx σ) := by
  cases r with
  | ok a => exact h
  | ex e => exact h
  | bad => exact h
theorem RC.mono {α : Type} {O : ObS} {W : Wd} {H : Hp} {r : R α} {q q' : Wd → Hp → α → Prop} {E : XK} (h : RC O W H r q E) (i : ∀ W' H' a, Stp W H W' H' → q W' H' a → q' W' H' a) : RC O W H r q' E := by
  cases r with
  | ok a => exact fun W' H' t => i W' H' a t (h W' H' t)
  | ex e => exact h
  | bad => exact h
theorem t_call {m : List PV → R PV} : ∀ σ H Q, tP Y (eCall m fa) σ H Q → tCallS (spP Y.O md m) (WE Y.Wx) (tAr Y md fa) σ H Q := by
  intro σ H Q ⟨W, env, E, r⟩
  exact ⟨W, env, E, (RP.bind E.ho r).mono fun W1 H1 ps s1 k1 xs rx => ⟨W1, ps, (E.step s1).ho, rx, k1.call⟩⟩
theorem t_callF {m : List PV → R (List PV)} : ∀ σ H Q, tF Y (lCall m fa) σ H Q → tCallS (spF Y.O md m) (WE Y.Wx) (tAr Y md fa) σ H Q := by
  intro σ H Q ⟨W, env, E, r⟩
  refine ⟨W, env, E, (RP.bind E.ho r).mono fun W1 H1 ps s1 k1 xs rx => ⟨W1, ps, (E.step s1).ho, rx, ?_⟩⟩
  exact k1.call.mono fun W' H' qs t h a vs n => h a vs (s1.back E.ho n)
theorem ge_call {m : List PV → R PV} (G : GFn X.prog X.w X.K X.mg X.base x k (spP Y.O md m)) (hr : Room k X.A) (tk : Takes X Y.Wx) (ha : PA X (e :: es) (tAr Y md fa)) (hg : Gl X x := by rfl) (hdb : (x == ("__debug__" : Str)) = false := by decide) (he : starEach (e :: es) X.env = (false, eval e X.env) :: starEach es X.env := by rfl) (hpl : (backTo pos (starEach es X.env)).any (·.1) = false := by rfl) :
    PE X (.Call (.Name x p) (e :: es) [] pos) (tP Y (eCall m fa)) := by
  obtain ⟨f, fd, ps, F, h1, h2, h3⟩ := G
  exact pe_imp (pe_callS F hr hg h1 h2 h3 (fun σ => passAt tk σ) ha hdb he hpl) t_call
theorem gf_call {m : List PV → R (List PV)} (G : GFn X.prog X.w X.K X.mg X.base x k (spF Y.O md m)) (hr : Room k X.A) (tk : Takes X Y.Wx) (ha : PA X (e :: es) (tAr Y md fa)) (hg : Gl X x := by rfl) (hdb : (x == ("__debug__" : Str)) = false := by decide) (he : starEach (e :: es) X.env = (false, eval e X.env) :: starEach es X.env := by rfl) (hpl : (backTo pos (starEach es X.env)).any (·.1) = false := by rfl) :
    PE X (.Call (.Name x p) (e :: es) [] pos) (tF Y (lCall m fa)) := by
  obtain ⟨f, fd, ps, F, h1, h2, h3⟩ := G
  exact pe_imp (pe_callS F hr hg h1 h2 h3 (fun σ => passAt tk σ) ha hdb he hpl) t_callF
def tMethT (C : Addr) (m : Str) (sp : Sp) (E : St → XK) (ta : TE) (t : TA) : TE := fun σ H Q => ta σ H fun x H1 => ∃ a dx fs, x = .ref a ∧ H1 a = some (.ins C dx fs) ∧ fs.lookup m = none ∧ t σ H1 fun vs H2 => sp (x :: vs) H2 Q (E σ)
/-- an object of the kind kd is an instance of the class at C without a field m -/
def ObI (O : ObS) (kd : Nat) (C : Addr) (m : Str) : Prop := ∀ (W : Wd) (H : Hp) (d : List PV) (x : V), Hold W H → Rep O W (.ob kd d) x → ∃ a dx fs, x = .ref a ∧ H a = some (.ins C dx fs) ∧ fs.lookup m = none
end
section
variable {X : Cx} {Y : Cy} {st : Stmt} {rest : List Stmt} {g h : SX} {f : EX} {fa : AX} {e : Expr} {pos pos' : Pos} {i : Nat} {x : Str}
/-- what is wanted of an end -/
def OP (Y : Cy) (D : Ends) (W : Wd) (o : Ou) : Prop :=
  match o with
  | .nx e => ∀ W' H' σ', Wle W W' → EnvR Y W' H' σ' e → D.nx σ' H'
  | .bk e => ∀ W' H' σ', Wle W W' → EnvR Y W' H' σ' e → D.bk σ' H'
  | .ct e => ∀ W' H' σ', Wle W W' → EnvR Y W' H' σ' e → D.ct σ' H'
  | .rt p => ∀ W' H' x, Stz Y.ef Y.W0 Y.H0 W' H' → Rep Y.O W' p x → D.rt x H'
  | .rf ps => ∀ W' H' a vs, Stz Y.ef Y.W0 Y.H0 W' H' → Y.H0 a = none → W' a = none → H' a = some (.lst vs) → RepL Y.O W' ps vs → D.rt (.ref a) H'
  | .ex x e => ∀ W' H' σ' cls d, Wle W W' → EnvR Y W' H' σ' e → ExR Y.O W' cls d x → Y.Wx cls d σ' H'
  | .bad => False
  | .rs p S => ∀ W' H' x, Wle W W' → Stz Y.ef Y.W0 Y.H0 W' H' → StoR Y.O W' H' S → Rep Y.O W' p x → D.rt x H'
  | .rg ps S => ∀ W' H' a vs, Wle W W' → Stz Y.ef Y.W0 Y.H0 W' H' → StoR Y.O W' H' S → Y.H0 a = none → W' a = none → H' a = some (.lst vs) → RepL Y.O W' ps vs → D.rt (.ref a) H'
theorem OP.up {D : Ends} {W W1 : Wd} {o : Ou} (w : Wle W W1) (q : OP Y D W o) : OP Y D W1 o := by
  cases o with
  | nx e => exact fun W' H' σ' l => q W' H' σ' (w.trans l)
  | bk e => exact fun W' H' σ' l => q W' H' σ' (w.trans l)
  | ct e => exact fun W' H' σ' l => q W' H' σ' (w.trans l)
  | rt p => exact q
  | rf p => exact q
  | ex x e => exact fun W' H' σ' cls d l => q W' H' σ' cls d (w.trans l)
  | bad => exact q
  | rs p S => exact fun W' H' x l => q W' H' x (w.trans l)
  | rg p S => exact fun W' H' a vs l => q W' H' a vs (w.trans l)
/-- an expression's answer, then an end -/
theorem OP.rp {α : Type} {D : Ends} {W : Wd} {H : Hp} {σ : St} {env : Ev} {r : R α} {n : α → Ou} {k : Wd → Hp → α → Prop} (E : EnvR Y W H σ env) (q : OP Y D W (thenO r env n)) (hk : ∀ a, r = .ok a → OP Y D W (n a) → ∀ W' H', Stp W H W' H' → k W' H' a) : RP Y σ W H r k := by
  cases r with
  | ok a => exact hk a rfl q
  | ex x => exact fun W' H' cls d t z => q W' H' σ cls d t.le (E.step t) z
  | bad => exact q
theorem gs_cons (h1 : PS X st (tS Y g)) (h2 : PSs X rest (tS Y h)) : PSs X (st :: rest) (tS Y (sSeq g h)) := by
  refine pss_imp (pss_cons h1 h2) fun D σ H ⟨W, env, E, q⟩ => ⟨W, env, E, ?_⟩
  have q : OP Y D W (sSeq g h env) := q
  show OP Y { D with nx := tS Y h D } W (g env)
  unfold sSeq at q
  cases e : g env with
  | nx e' =>
    rw [e] at q
    exact fun W' H' σ' l E' => ⟨W', e', E', q.up l⟩
  | bk e' => rw [e] at q; exact q
  | ct e' => rw [e] at q; exact q
  | rt p => rw [e] at q; exact q
  | rf p => rw [e] at q; exact q
  | rs p S => rw [e] at q; exact q
  | rg p S => rw [e] at q; exact q
  | ex x e' => rw [e] at q; exact q
  | bad => rw [e] at q; exact q
theorem gs_one (h1 : PS X st (tS Y g)) : PSs X [st] (tS Y g) := pss_one h1
theorem gs_nil : PSs X [] (tS Y sNil) := pss_imp pss_nil fun D σ H ⟨W, env, E, q⟩ => q W H σ (Wle.refl W) E
theorem gs_asg (i : Nat) (hN : X.N.Nodup) (he : PE X e (tP Y f)) (hi : X.N[i]? = some x := by rfl) (hx : Loc X.env.scope x := by first | exact Or.inl rfl | exact Or.inr rfl) (hs : swapsWith e (some (.Name x pos')) pos.line X.env = pure false := by rfl) (hf : X.fn x = true ∨ X.env.scope.names.lookup x = some .local := by first | exact .inl rfl | exact .inr rfl | assumption) :
    PS X (.Assign [.Name x pos'] e pos) (tS Y (sAsg i f)) := by
  refine ps_imp (ps_set hN hi hx he hs hf) fun D σ H ⟨W, env, E, q⟩ => ⟨W, env, E, ?_⟩
  have q : OP Y D W (sAsg i f env) := q
  refine OP.rp E q fun p _ q W' H' t x rx => ?_
  exact q W' H' _ t.le ((E.step t).setv rx)
theorem gs_own (i : Nat) (hN : X.N.Nodup) (he : PE X e (tF Y fa)) (hi : X.N[i]? = some x := by rfl) (hx : Loc X.env.scope x := by first | exact Or.inl rfl | exact Or.inr rfl) (hs : swapsWith e (some (.Name x pos')) pos.line X.env = pure false := by rfl) (hf : X.fn x = true ∨ X.env.scope.names.lookup x = some .local := by first | exact .inl rfl | exact .inr rfl | assumption) :
    PS X (.Assign [.Name x pos'] e pos) (tS Y (sOwn i fa)) := by
  refine ps_imp (ps_set hN hi hx he hs hf) fun D σ H ⟨W, env, E, q⟩ => ⟨W, env, E, ?_⟩
  have q : OP Y D W (sOwn i fa env) := q
  refine OP.rp E q fun p _ q W' H' t a vs n nw ha rl => ?_
  exact q W' H' _ t.le (E.seto t n ha nw rl)
theorem gs_ret (he : PE X e (tP Y f)) : PS X (.Return (some e) pos) (tS Y (sRet f)) := by
  refine ps_imp (ps_ret he) fun D σ H ⟨W, env, E, q⟩ => ⟨W, env, E, ?_⟩
  have q : OP Y D W (sRet f env) := q
  exact OP.rp E q fun p _ q W' H' t x rx => q W' H' x (E.step t).st rx
theorem gs_retF (he : PE X e (tF Y fa)) : PS X (.Return (some e) pos) (tS Y (sRetF fa)) := by
  refine ps_imp (ps_ret he) fun D σ H ⟨W, env, E, q⟩ => ⟨W, env, E, ?_⟩
  have q : OP Y D W (sRetF fa env) := q
  exact OP.rp E q fun p _ q W' H' t a vs n nw ha rl => q W' H' a vs (E.step t).st (E.st.back Y.h0 n) nw ha rl
theorem gs_retO (i : Nat) (hN : X.N[i]? = some x := by rfl) (hv : Vis X.env.scope x := by first | exact Or.inl rfl | exact Or.inr (Or.inl rfl) | exact Or.inr (Or.inr rfl)) (hd : (x == ("__debug__" : Str)) = false := by decide) (hcd : (x == ("__classdict__" : Str)) = false := by decide) : PS X (.Return (some (.Name x pos')) pos) (tS Y (sRetO i)) := by
  refine ps_imp (ps_ret (pe_var hN hv hd hcd)) fun D σ H ⟨W, env, E, q⟩ => ?_
  have q : OP Y D W (sRetO i env) := q
  unfold sRetO at q
  cases e : env[i]? with
  | none => rw [e] at q; exact False.elim q
  | some s =>
    rw [e] at q
    cases s with
    | o ps =>
      obtain ⟨y, b, e1, a, vs, _, e2, e3, e4, e5, e6⟩ := E.slot e
      exact ⟨.ref a, by rw [e1, e2], q W H a vs E.st e5 e4 e3 e6⟩
    | _ => exact False.elim q
theorem gs_if {c : Expr} {a b : List Stmt} (hc : PT X c (tT Y f)) (ha : PSs X a (tS Y g)) (hb : PSs X b (tS Y h)) : PS X (.If c a b pos) (tS Y (sIf f g h)) := by
  refine ps_imp (ps_if hc ha hb) fun D σ H ⟨W, env, E, q⟩ => ⟨W, env, E, ?_⟩
  have q : OP Y D W (sIf f g h env) := q
  refine OP.rp E q fun p _ q W' H' t => ?_
  cases p with
  | bl d =>
    cases d with
    | true => exact ⟨true, rfl, ⟨W', env, E.step t, q.up t.le⟩⟩
    | false => exact ⟨false, rfl, ⟨W', env, E.step t, q.up t.le⟩⟩
  | _ => exact False.elim q
theorem gs_frz (i : Nat) (h1 : PS X st (tS Y g)) : PS X st (tS Y (sFrz i g)) := by
  refine ps_imp h1 fun D σ H ⟨W, env, E, q⟩ => ?_
  obtain ⟨W', l, E'⟩ := E.frz i
  have q : OP Y D W (g (frz i env)) := q
  exact ⟨W', _, E', q.up l⟩
/-- the name in slot i: .append(e) -/
theorem gs_app (i : Nat) (he : PE X e (tBM X.K "list" rAppend (tVar i) (tCons (tP Y f) tNil))) (hs : swapsWith e none pos.line X.env = pure false := by rfl) : PS X (.Expr e pos) (tS Y (sApp i f)) := by
  refine ps_imp (ps_expr he hs) fun D σ H ⟨W, env, E, q⟩ => ?_
  have q : OP Y D W (sApp i f env) := q
  unfold sApp at q
  cases e : env[i]? with
  | none => rw [e] at q; exact False.elim q
  | some s =>
    rw [e] at q
    cases s with
    | o xs =>
      obtain ⟨y, b, e1, a, vs, _, e2, e3, e4, e5, e6⟩ := E.slot e
      refine ⟨.ref a, by rw [e1, e2], .inl ⟨rfl, vs, SqL.of e3⟩, W, env, E, ?_⟩
      refine OP.rp E q fun p _ q W' H' t x rx => ?_
      by_cases c : xs.length < 1000000
      · rw [if_pos c] at q
        obtain ⟨a', vs', c1, c2, c3, c4, c5⟩ := (E.step t).mut e
        rw [e1, e2] at c1
        cases c1
        refine ⟨a, vs', x, rfl, rfl, c2, by rw [← c4.len]; exact size_lt c, ?_⟩
        exact q W' _ σ t.le (c5 (xs ++ [p]) (vs' ++ [x]) (c4.app (RepL.cons rx RepL.nil)))
      · rw [if_neg c] at q; exact False.elim q
    | _ => exact False.elim q
theorem gs_rev (i : Nat) (he : PE X e (tBM0 X.K "list" rReverse (tVar i))) (hs : swapsWith e none pos.line X.env = pure false := by rfl) : PS X (.Expr e pos) (tS Y (sMut i List.reverse)) := by
  refine ps_imp (ps_expr he hs) fun D σ H ⟨W, env, E, q⟩ => ?_
  have q : OP Y D W (sMut i List.reverse env) := q
  unfold sMut at q
  cases e : env[i]? with
  | none => rw [e] at q; exact False.elim q
  | some s =>
    rw [e] at q
    cases s with
    | o xs =>
      obtain ⟨a, vs, c1, c2, c3, c4, c5⟩ := E.mut e
      refine ⟨.ref a, c1, .inl ⟨rfl, vs, SqL.of c2⟩, a, vs, rfl, rfl, c2, ?_⟩
      exact q W _ σ (Wle.refl W) (c5 xs.reverse vs.reverse (RepL.rev c4))
    | _ => exact False.elim q
def PGP (X : Cx) (Y : Cy) (tg : Expr) (b : BX) : Prop := ∃ g, PG X tg g ∧ ∀ (W : Wd) (H : Hp) (σ : St) (env e : Ev) (p : PV) (x : V) (Q : St → Hp → Prop), EnvR Y W H σ env → Rep Y.O W p x → b p env = .ok e → (∀ W' H' σ', Wle W W' → EnvR Y W' H' σ' e → Q σ' H') → g x σ H Q
theorem gg_name (i : Nat) {pos : Pos} (hN : X.N.Nodup) (hi : X.N[i]? = some x := by rfl) (hx : Loc X.env.scope x := by first | exact Or.inl rfl | exact Or.inr rfl) (hf : X.fn x = true ∨ X.env.scope.names.lookup x = some .local := by first | exact .inl rfl | exact .inr rfl | assumption) : PGP X Y (.Name x pos) (bName i) := by
  refine ⟨gName i, pg_name hN hi hx hf, fun W H σ env e p v Q E r hb k => ?_⟩
  cases hb
  exact k W H _ (Wle.refl W) (E.setv r)
theorem gg_two (i j : Nat) {y : Str} {pos p1 p2 : Pos} {kk : Nat} (hc : X.calm = true) (hN : X.N.Nodup) (hi : X.N[i]? = some x := by rfl) (hj : X.N[j]? = some y := by rfl) (hx : Loc X.env.scope x := by first | exact Or.inl rfl | exact Or.inr rfl) (hy : Loc X.env.scope y := by first | exact Or.inl rfl | exact Or.inr rfl)
    (hf : X.fn x = true ∨ X.env.scope.names.lookup x = some .local := by first | exact .inl rfl | exact .inr rfl | assumption) (hf2 : X.fn y = true ∨ X.env.scope.names.lookup y = some .local := by first | exact .inl rfl | exact .inr rfl | assumption)
    (hs1 : (assignEach [.Name x p1, .Name y p2] X.env).map (·.2) = assign (.Name x p1) X.env :: (assignEach [.Name y p2] X.env).map (·.2) := by rfl) (hs2 : (assignEach [.Name y p2] X.env).map (·.2) = assign (.Name y p2) X.env :: (assignEach [] X.env).map (·.2) := by rfl)
    (hn : (assignEach [.Name x p1, .Name y p2] X.env).length = 2 := by rfl) (hst : (assignEach [.Name x p1, .Name y p2] X.env).findIdx? (·.1) = none := by rfl) : PGP X Y (.Tuple [.Name x p1, .Name y p2] kk pos) (bTup2 i j) := by
  refine ⟨_, pg_tup hc (pgs_cons (pg_name hN hi hx hf) (pgs_cons (pg_name hN hj hy hf2) pgs_nil hs2) hs1) hn hst, fun W H σ env e p v Q E r hb k => ?_⟩
  cases p with
  | tup l =>
    match l, hb, r with
    | [p1, p2], hb, r =>
      cases hb
      obtain ⟨a, vs, e1, t, rl⟩ := Rep.tup_iff.mp r
      match vs, rl, t with
      | [v1, v2], rl, t =>
        obtain ⟨r1, r2⟩ := RepL.cons_iff.mp rl
        obtain ⟨r2, _⟩ := RepL.cons_iff.mp r2
        refine ⟨a, [v1, v2], e1, SqT.of (t.sq E.ho), rfl, v1, [v2], rfl, v2, [], rfl, rfl, ?_⟩
        exact k W H _ (Wle.refl W) ((E.setv r1).setv r2)
      | [], rl, _ => exact absurd rl.len (by simp)
      | [_], rl, _ => exact absurd rl.len (by simp)
      | _ :: _ :: _ :: _, rl, _ => exact absurd rl.len (by simp)
    | [], hb, _ => cases hb
    | [_], hb, _ => cases hb
    | _ :: _ :: _ :: _, hb, _ => cases hb
  | _ => cases hb
theorem gs_unp {tg : Expr} {b : BX} (he : PE X e (tP Y f)) (hg : PGP X Y tg b) (hs : swapsWithSole [tg] e pos.line X.env = pure false := by rfl) (hw : swappedStores [tg] e X.env = pure none := by rfl) (h1 : (assignEach [tg] X.env).map (·.2) = [assign tg X.env] := by rfl) : PS X (.Assign [tg] e pos) (tS Y (sUnp b f)) := by
  obtain ⟨g, hg, kg⟩ := hg
  refine ps_imp (ps_asg he hg hs hw h1) fun D σ H ⟨W, env, E, q⟩ => ⟨W, env, E, ?_⟩
  have q : OP Y D W (sUnp b f env) := q
  refine OP.rp E q fun p _ q W' H' t x rx => ?_
  cases hb : b p env with
  | ok e' =>
    rw [hb] at q
    exact kg W' H' σ env e' p x D.nx (E.step t) rx hb fun W2 H2 σ2 l E2 => q W2 H2 σ2 (t.le.trans l) E2
  | ex _ => rw [hb] at q; exact False.elim q
  | bad => rw [hb] at q; exact False.elim q
end
end JP

set_option Elab.async false
set_option linter.all false
set_option maxRecDepth 100000
namespace JP
open PySem L2 PyProof.Rows
theorem pi_imp {X : Cx} {tg iter : Expr} {w w' : TI} (h : PI X tg iter w) (k : ∀ σ H R, w' σ H R → w σ H R) : PI X tg iter w' := ⟨fun pins s σ H R I q => h.run pins s σ H R I (k σ H R q)⟩
def Itse (x : Str) : It := ⟨fun i _ => i < x.cps.size, fun i H v H' => ∃ T c, v = .ref T ∧ H T = none ∧ H' = upd H T (.tup [.int (i : Nat), .str ⟨#[c]⟩]) ∧ x.cps[i]? = some c, fun i _ => i = x.cps.size⟩
def iEnumS (ta : TA) : TI := fun σ H R => ta σ H fun vs H1 => ∃ x : Str, vs = [.str x] ∧ R (Itse x) H1
structure WalkP (O : ObS) (S : Wd → Hp → Prop) (J : It) (ps : List PV) : Prop where
  go : ∀ (i : Nat) W H, i < ps.length → S W H → J.go i H
  stop : ∀ W H, S W H → J.stop ps.length H
  yld : ∀ (i : Nat) W H x H', i < ps.length → S W H → J.yld i H x H' → ∃ W' p, Stp W H W' H' ∧ ps[i]? = some p ∧ Rep O W' p x
def SL (Y : Cy) (W1 : Wd) : Wd → Hp → Prop := fun W2 H2 => Wle W1 W2 ∧ Stz Y.ef Y.W0 Y.H0 W2 H2
def SC (W1 : Wd) (H1 : Hp) : Wd → Hp → Prop := fun W2 H2 => Stp W1 H1 W2 H2
def tIl (Y : Cy) (fa : AX) : TI := fun σ H R => ∃ W env, EnvR Y W H σ env ∧ RP Y σ W H (fa env) fun W1 H1 ps => ∀ J, WalkP Y.O (SL Y W1) J ps → R J H1
def tIc (Y : Cy) (fa : AX) : TI := fun σ H R => ∃ W env, EnvR Y W H σ env ∧ RP Y σ W H (fa env) fun W1 H1 ps => ∀ J, WalkP Y.O (SC W1 H1) J ps → R J H1
section
variable {O : ObS} {S : Wd → Hp → Prop}
theorem walkP_list {a : Addr} {ps : List PV} (h : ∀ W H, S W H → Hold W H ∧ ∃ vs, SqL O.K H a vs ∧ RepL O W ps vs) (hi : ∀ W H W' H' vs vs', S W H → S W' H' → SqL O.K H a vs → SqL O.K H' a vs' → True) : WalkP O S (Itl O.K a) ps := by
  refine ⟨fun i W H hi s => ?_, fun W H s => ?_, fun i W H x H' hi s y => ?_⟩
  · obtain ⟨_, vs, q, r⟩ := h W H s
    have hl := r.len
    exact ⟨vs, vs[i]'(by omega), q, List.getElem?_eq_getElem (by omega)⟩
  · obtain ⟨_, vs, q, r⟩ := h W H s
    exact ⟨vs, q, by rw [r.len]; exact Nat.le_refl _⟩
  · obtain ⟨h0, vs, q, r⟩ := h W H s
    obtain ⟨e, y⟩ := y
    subst e
    have e1 := y vs q
    obtain ⟨v, e2, rv⟩ := r.get (i := i) (p := ps[i]) (List.getElem?_eq_getElem hi)
    rw [e1] at e2
    cases e2
    exact ⟨W, ps[i], Stp.refl h0, List.getElem?_eq_getElem hi, rv⟩
theorem walkP_str {s : List Nat} (o : okS s) (h : ∀ W H, S W H → Hold W H) : WalkP O S (Its (tx s)) (s.map fun c => .str [c]) := by
  refine ⟨fun i W H hi _ => ?_, fun W H _ => ?_, fun i W H x H' hi q y => ?_⟩
  · show i < s.toArray.size
    simpa using hi
  · show s.toArray.size ≤ _
    simp
  · obtain ⟨e, c, e1, e2⟩ := y
    subst e; subst e2
    have e3 : s[i]? = some c := by
      have : s.toArray[i]? = some c := e1
      simpa using this
    exact ⟨W, .str [c], Stp.refl (h W _ q), by rw [List.getElem?_map, e3]; rfl, Rep.str_iff.mpr ⟨rfl, fun d hd => by simp at hd; subst hd; exact o _ (List.mem_of_getElem? e3)⟩⟩
theorem enumP_len : ∀ (n : Nat) (ps : List PV), (enumP n ps).length = ps.length
  | _, [] => rfl
  | n, p :: ps => by simp only [enumP, List.length_cons, enumP_len (n + 1) ps]
theorem enumP_get : ∀ (n : Nat) (ps : List PV) (i : Nat) (p : PV), ps[i]? = some p → (enumP n ps)[i]? = some (.tup [.int ((n + i : Nat) : Int), p])
  | _, [], _, _, h => by simp at h
  | n, q :: ps, 0, p, h => by simp at h; subst h; simp [enumP]
  | n, q :: ps, i + 1, p, h => by
    have := enumP_get (n + 1) ps i p (by simpa using h)
    simp only [enumP, List.getElem?_cons_succ, this]
    congr 4
    omega
theorem pair_new {W : Wd} {H : Hp} {T : Addr} {p q : PV} {x y : V} (h0 : Hold W H) (n : H T = none) (r1 : Rep O W p x) (r2 : Rep O W q y) : Stp W H (putW W T (.tup [x, y])) (upd H T (.tup [x, y])) ∧ Rep O (putW W T (.tup [x, y])) (.tup [p, q]) (.ref T) :=
  ⟨Stp.new h0 n, Rep.fixT (h0.none n) (RepL.cons r1 (RepL.cons r2 RepL.nil))⟩
theorem walkP_enum {a : Addr} {ps : List PV} (h : ∀ W H, S W H → Hold W H ∧ ∃ vs, SqL O.K H a vs ∧ RepL O W ps vs) : WalkP O S (Ite O.K a) (enumP 0 ps) := by
  refine ⟨fun i W H hi s => ?_, fun W H s => ?_, fun i W H x H' hi s y => ?_⟩
  · obtain ⟨_, vs, q, r⟩ := h W H s
    have hl := r.len
    rw [enumP_len] at hi
    exact ⟨vs, vs[i]'(by omega), q, List.getElem?_eq_getElem (by omega)⟩
  · obtain ⟨_, vs, q, r⟩ := h W H s
    exact ⟨vs, q, by rw [enumP_len, r.len]; exact Nat.le_refl _⟩
  · obtain ⟨h0, vs, q, r⟩ := h W H s
    obtain ⟨T, v, e1, e2, e3, e4⟩ := y
    subst e1; subst e3
    rw [enumP_len] at hi
    obtain ⟨v', e5, rv⟩ := r.get (i := i) (p := ps[i]) (List.getElem?_eq_getElem hi)
    rw [e4 vs q] at e5
    cases e5
    obtain ⟨t, rp⟩ := pair_new (O := O) (p := .int (i : Nat)) (x := .int (i : Nat)) h0 e2 (Rep.int_iff.mpr rfl) rv
    refine ⟨_, _, t, ?_, rp⟩
    have := enumP_get 0 ps i ps[i] (List.getElem?_eq_getElem hi)
    simpa using this
theorem walkP_range {lo : Int} {n : Nat} (h : ∀ W H, S W H → Hold W H) : WalkP O S (Itr lo n) (rngP lo n) := by
  refine ⟨fun i W H hi _ => ?_, fun W H _ => ?_, fun i W H x H' hi q y => ?_⟩
  · show i < n
    simpa [rngP] using hi
  · show n ≤ _
    simp [rngP]
  · obtain ⟨e1, e2⟩ := y
    subst e1; subst e2
    have hi' : i < n := by simpa [rngP] using hi
    exact ⟨W, .int (lo + i), Stp.refl (h W _ q), by simp [rngP, hi'], Rep.int_iff.mpr rfl⟩
end
section
variable {X : Cx} {Y : Cy} {tg e : Expr} {f : EX} {p pos : Pos}
/-- the states of a loop, for a borrowed list -/
theorem RepQ.walk {W1 : Wd} {ps : List PV} {x : V} (r : RepQ Y.ef Y.O Y.W0 Y.H0 W1 (.lst ps) x) : ∃ a, x = .ref a ∧ ∀ W H, SL Y W1 W H → Hold W H ∧ ∃ vs, SqL Y.O.K H a vs ∧ RepL Y.O W ps vs := by
  rcases r with r | ⟨a, vs, ps', e1, e2, e3, e4, e5⟩ | ⟨a, t, kvs, e1, _⟩
  · obtain ⟨a, vs, e, l, t⟩ := Rep.lst_iff.mp r
    exact ⟨a, e, fun W H s => ⟨s.2.ho, vs, (l.mono s.1).sq s.2.ho, t.mono s.1⟩⟩
  · cases e1
    exact ⟨a, e2, fun W H s => ⟨s.2.ho, vs, SqL.of (s.2.ownQ e3 e4).1, e5.mono s.1⟩⟩
  · cases e1
theorem RepQ.walkS {W1 : Wd} {ps : List PV} {x : V} (r : RepQ Y.ef Y.O Y.W0 Y.H0 W1 (.scr ps) x) : ∃ a, x = .ref a ∧ ∀ W H, SL Y W1 W H → Hold W H ∧ ∃ vs, SqL Y.O.K H a vs ∧ RepL Y.O W ps vs := by
  rcases r with r | ⟨a, vs, ps', e1, _⟩ | ⟨a, t, kvs, e1, _⟩
  · obtain ⟨a, vs, e, l, t⟩ := Rep.scr_iff.mp r
    exact ⟨a, e, fun W H s => ⟨s.2.ho, vs, (l.mono s.1).sq s.2.ho, t.mono s.1⟩⟩
  · cases e1
  · cases e1
theorem RepB.walk {W1 : Wd} {H1 : Hp} {ps : List PV} {x : V} (r : RepB Y.O W1 H1 (.lst ps) x) : ∃ a, x = .ref a ∧ ∀ W H, SC W1 H1 W H → Hold W H ∧ ∃ vs, SqL Y.O.K H a vs ∧ RepL Y.O W ps vs := by
  rcases r with r | ⟨a, vs, ps', e1, e2, e3, e4, e5⟩ | ⟨a, t, kvs, e1, _⟩
  · obtain ⟨a, vs, e, l, t⟩ := Rep.lst_iff.mp r
    exact ⟨a, e, fun W H s => ⟨s.ho, vs, (l.mono s.le).sq s.ho, t.mono s.le⟩⟩
  · cases e1
    exact ⟨a, e2, fun W H s => ⟨s.ho, vs, SqL.of (s.ownL e3 e4).1, e5.mono s.le⟩⟩
  · cases e1
theorem RepB.walkS {W1 : Wd} {H1 : Hp} {ps : List PV} {x : V} (r : RepB Y.O W1 H1 (.scr ps) x) : ∃ a, x = .ref a ∧ ∀ W H, SC W1 H1 W H → Hold W H ∧ ∃ vs, SqL Y.O.K H a vs ∧ RepL Y.O W ps vs := by
  obtain ⟨a, vs, e, l, t⟩ := r.scr
  exact ⟨a, e, fun W H s => ⟨s.ho, vs, (l.mono s.le).sq s.ho, t.mono s.le⟩⟩
theorem gi_list (hK : Y.O.K = X.K) (he : PE X e (tQ Y f)) : PI X tg e (tIl Y (lUn iSeq f)) := by
  refine pi_imp (pi_list he) fun σ H R ⟨W, env, E, r⟩ => ⟨W, env, E, (RP.bind E.ho r).mono fun W1 H1 q s1 k1 x rx => ?_⟩
  have E1 := E.step s1
  obtain ⟨ps, hz, kz⟩ := RP.ofO k1
  have key : ∃ a, x = .ref a ∧ ∀ W H, SL Y W1 W H → Hold W H ∧ ∃ vs, SqL Y.O.K H a vs ∧ RepL Y.O W ps vs := by
    cases q with
    | lst l => cases hz; exact rx.walk
    | scr l => cases hz; exact rx.walkS
    | _ => cases hz
  obtain ⟨a, e1, h⟩ := key
  obtain ⟨_, vs, q1, _⟩ := h W1 H1 ⟨Wle.refl W1, E1.st⟩
  rw [← hK]
  exact ⟨a, e1, ⟨vs, q1⟩, kz W1 H1 (Stp.refl E1.ho) _ (walkP_list h fun _ _ _ _ _ _ _ _ _ _ => trivial)⟩
theorem gic_list (hK : Y.O.K = X.K) (he : PE X e (tB Y f)) : PI X tg e (tIc Y (lUn iSeq f)) := by
  refine pi_imp (pi_list he) fun σ H R ⟨W, env, E, r⟩ => ⟨W, env, E, (RP.bind E.ho r).mono fun W1 H1 q s1 k1 x rx => ?_⟩
  have E1 := E.step s1
  obtain ⟨ps, hz, kz⟩ := RP.ofO k1
  have key : ∃ a, x = .ref a ∧ ∀ W H, SC W1 H1 W H → Hold W H ∧ ∃ vs, SqL Y.O.K H a vs ∧ RepL Y.O W ps vs := by
    cases q with
    | lst l => cases hz; exact rx.walk
    | scr l => cases hz; exact rx.walkS
    | _ => cases hz
  obtain ⟨a, e1, h⟩ := key
  obtain ⟨_, vs, q1, _⟩ := h W1 H1 (Stp.refl E1.ho)
  rw [← hK]
  exact ⟨a, e1, ⟨vs, q1⟩, kz W1 H1 (Stp.refl E1.ho) _ (walkP_list h fun _ _ _ _ _ _ _ _ _ _ => trivial)⟩
theorem gi_str (he : PE X e (tB Y f)) : PI X tg e (tIl Y (lUn iTxt f)) := by
  refine pi_imp (pi_str he) fun σ H R ⟨W, env, E, r⟩ => ⟨W, env, E, (RP.bind E.ho r).mono fun W1 H1 q s1 k1 x rx => ?_⟩
  have E1 := E.step s1
  obtain ⟨ps, hz, kz⟩ := RP.ofO k1
  cases q with
  | str s =>
    cases hz
    obtain ⟨e1, o⟩ := rx.str
    exact ⟨tx s, e1, kz W1 H1 (Stp.refl E1.ho) _ (walkP_str o fun _ _ s => s.2.ho)⟩
  | _ => cases hz
variable {elts : List Expr} {kk : Nat} {tpos : Pos}
/-- enumerate of a list -/
theorem gi_enum (hK : Y.O.K = X.K) (hm : X.mg "enumerate" = none) (he : PE X e (tQ Y f)) (hg : Gl X "enumerate" := by rfl) (hs : starEach [e] X.env = [(false, eval e X.env)] := by rfl) (hs2 : starEach [e] X.env = (false, eval e X.env) :: starEach [] X.env := by rfl) : PI X (.Tuple elts kk tpos) (.Call (.Name "enumerate" p) [e] [] pos) (tIl Y (lUn iEnL f)) := by
  refine pi_imp (pi_enum hg hm (pa_cons he pa_nil hs2) hs) fun σ H R ⟨W, env, E, r⟩ => ⟨W, env, E, (RP.bind E.ho r).mono fun W1 H1 q s1 k1 x rx => ?_⟩
  have E1 := E.step s1
  obtain ⟨ps, hz, kz⟩ := RP.ofO k1
  have key : ∃ qs a, ps = enumP 0 qs ∧ x = .ref a ∧ ∀ W H, SL Y W1 W H → Hold W H ∧ ∃ vs, SqL Y.O.K H a vs ∧ RepL Y.O W qs vs := by
    cases q with
    | lst l => cases hz; obtain ⟨a, h1, h2⟩ := rx.walk; exact ⟨l, a, rfl, h1, h2⟩
    | scr l => cases hz; obtain ⟨a, h1, h2⟩ := rx.walkS; exact ⟨l, a, rfl, h1, h2⟩
    | _ => cases hz
  obtain ⟨qs, a, e0, e1, h⟩ := key
  subst e0
  obtain ⟨_, vs, q1, _⟩ := h W1 H1 ⟨Wle.refl W1, E1.st⟩
  refine ⟨a, vs, by rw [e1], by rw [← hK]; exact q1, ?_⟩
  rw [← hK]
  exact kz W1 H1 (Stp.refl E1.ho) _ (walkP_enum h)
theorem gi_rng1 (hm : X.mg "range" = none) (he : PE X e (tP Y f)) (hg : Gl X "range" := by rfl) (hs : starEach [e] X.env = [(false, eval e X.env)] := by rfl) (hs2 : starEach [e] X.env = (false, eval e X.env) :: starEach [] X.env := by rfl) : PI X tg (.Call (.Name "range" p) [e] [] pos) (tIl Y (lUn iRn1 f)) := by
  refine pi_imp (pi_range1 hg hm (pa_cons he pa_nil hs2) hs) fun σ H R ⟨W, env, E, r⟩ => ⟨W, env, E, (RP.bind E.ho r).mono fun W1 H1 q s1 k1 x rx => ?_⟩
  have E1 := E.step s1
  obtain ⟨ps, hz, kz⟩ := RP.ofO k1
  cases q with
  | int n =>
    dsimp only [iRn1] at hz
    by_cases c : (-(2 ^ 62) ≤ n && n < 2 ^ 62) = true
    · rw [if_pos c] at hz
      cases hz
      simp only [Bool.and_eq_true, decide_eq_true_eq] at c
      exact ⟨n, by rw [Rep.int_iff.mp rx], c.1, c.2, kz W1 H1 (Stp.refl E1.ho) _ (walkP_range fun _ _ s => s.2.ho)⟩
    · rw [if_neg c] at hz; cases hz
  | _ => cases hz
theorem forF_step {b : BX} {s : SX} {ps : List PV} {i : Nat} {p : PV} (h : ps[i]? = some p) (env : Ev) : forF b s (ps.drop i) env = match b p env with
    | .ok e => (match s e with | .nx e' => forF b s (ps.drop (i + 1)) e' | .ct e' => forF b s (ps.drop (i + 1)) e' | .bk e' => .nx e' | o => o)
    | _ => .bad := by
  have hi := (List.getElem?_eq_some_iff.mp h).1
  have e : ps.drop i = p :: ps.drop (i + 1) := by
    rw [List.drop_eq_getElem_cons hi]
    congr 1
    have := List.getElem?_eq_getElem hi
    rw [h] at this
    exact (Option.some.inj this).symm
  rw [e]
  rfl
theorem gs_for {iter : Expr} {body : List Stmt} {fa : AX} {b : BX} {s : SX} (hp : PassesOwn (model X.prog X.w) X.A X.env X.xe) (hc : X.calm = true) (hi : PI X tg iter (tIl Y fa)) (hg : PGP X Y tg b) (hb : PSs X body (tS Y s)) (hs : ∀ x, foldedSetIterable iter X.env x = pure x := by intro _; rfl) :
    PS X (.For tg iter body [] pos) (tS Y (sFor b fa s)) := by
  obtain ⟨g, hg, kg⟩ := hg
  refine ps_imp (ps_for hp hc hi hg hb hs) fun D σ H ⟨W, env, E, q⟩ => ⟨W, env, E, ?_⟩
  have q : OP Y D W (sFor b fa s env) := q
  refine OP.rp E q fun ps _ q W1 H1 t J w => ?_
  have E1 := E.step t
  have q1 : OP Y D W1 (forF b s ps env) := q.up t.le
  refine ⟨fun i m σ H => m = ps.length - i ∧ i ≤ ps.length ∧ ∃ W2 env2, Wle W1 W2 ∧ EnvR Y W2 H σ env2 ∧ OP Y D W2 (forF b s (ps.drop i) env2), ⟨ps.length, by simp, Nat.zero_le _, W1, env, Wle.refl W1, E1, by simpa using q1⟩, ?_⟩
  rintro i m σ2 H2 ⟨rfl, hi, W2, env2, l2, E2, q2⟩
  by_cases hlt : i < ps.length
  · refine .inr ⟨w.go i W2 H2 hlt ⟨l2, E2.st⟩, fun σ' H' => ∃ W3 env3, Wle W1 W3 ∧ EnvR Y W3 H' σ' env3 ∧ OP Y D W3 (forF b s (ps.drop (i + 1)) env3), fun σ' H' z => ⟨ps.length - (i + 1), by omega, rfl, hlt, z⟩, fun x H' y => ?_⟩
    obtain ⟨W3, p, t3, hp, rp⟩ := w.yld i W2 H2 x H' hlt ⟨l2, E2.st⟩ y
    rw [forF_step hp] at q2
    have E3 := E2.step t3
    cases hb : b p env2 with
    | ok e =>
      rw [hb] at q2
      dsimp only at q2
      refine kg W3 H' σ2 env2 e p x _ E3 rp hb fun W4 H4 σ4 l4 E4 => ⟨W4, e, E4, ?_⟩
      show OP Y _ W4 (s e)
      have l24 : Wle W2 W4 := t3.le.trans l4
      cases hse : s e with
      | nx e' =>
        rw [hse] at q2
        exact fun W5 H5 σ5 l5 E5 => ⟨W5, e', l2.trans (l24.trans l5), E5, q2.up (l24.trans l5)⟩
      | ct e' =>
        rw [hse] at q2
        exact fun W5 H5 σ5 l5 E5 => ⟨W5, e', l2.trans (l24.trans l5), E5, q2.up (l24.trans l5)⟩
      | bk e' =>
        rw [hse] at q2
        exact fun W5 H5 σ5 l5 E5 => q2 W5 H5 σ5 (l24.trans l5) E5
      | rt p' => rw [hse] at q2; exact q2
      | rf p' => rw [hse] at q2; exact q2
      | rs p' S' => rw [hse] at q2; exact fun W5 H5 x5 l5 => q2 W5 H5 x5 (l24.trans l5)
      | rg p' S' => rw [hse] at q2; exact fun W5 H5 x5 vs5 l5 => q2 W5 H5 x5 vs5 (l24.trans l5)
      | ex x' e' =>
        rw [hse] at q2
        exact fun W5 H5 σ5 cls d l5 E5 z => q2 W5 H5 σ5 cls d (l24.trans l5) E5 z
      | bad => rw [hse] at q2; exact False.elim q2
    | ex _ => rw [hb] at q2; exact False.elim q2
    | bad => rw [hb] at q2; exact False.elim q2
  · have e : i = ps.length := by omega
    subst e
    refine .inl ⟨w.stop W2 H2 ⟨l2, E2.st⟩, ?_⟩
    rw [List.drop_length] at q2
    exact q2 W2 H2 σ2 (Wle.refl W2) E2
end
end JP

set_option Elab.async false
set_option linter.all false
set_option maxRecDepth 100000
namespace JP
open PySem L2
theorem argS_len : ∀ {md : List Bool} {ps : List PV}, ps.length = md.length → (argS md ps).length = md.length
  | [], [], _ => rfl
  | [], _ :: _, h => by simp at h
  | true :: md, p :: ps, h => by simp only [argS, List.length_cons, argS_len (md := md) (ps := ps) (by simpa using h)]
  | false :: md, p :: ps, h => by simp only [argS, List.length_cons, argS_len (md := md) (ps := ps) (by simpa using h)]
  | m :: md, [], h => by simp at h
/-- .. that stand from the entry on -/
def ArgQ (b : Bool) (O : ObS) (W : Wd) (H : Hp) : List Bool → List PV → List V → Prop
  | [], ps, vs => ps = [] ∧ vs = []
  | m :: ms, ps, vs => ∃ p pr v vr, ps = p :: pr ∧ vs = v :: vr ∧ (if m = true then RepQ b O W H W p v else Rep O W p v) ∧ ArgQ b O W H ms pr vr
theorem RepB.q {O : ObS} {W : Wd} {H : Hp} {p : PV} {v : V} (r : RepB O W H p v) : RepQ false O W H W p v := by
  rcases r with r | ⟨a, vs, ps, e1, e2, e3, e4, e5⟩ | ⟨a, t, kvs, e1, e2, e3, e4⟩
  · exact .inl r
  · exact .inr (.inl ⟨a, vs, ps, e1, e2, e3, e4.q, e5⟩)
  · exact .inr (.inr ⟨a, t, kvs, e1, e2, e3, e4⟩)
theorem ArgR.q {O : ObS} {W : Wd} {H : Hp} : ∀ {md : List Bool} {ps : List PV} {vs : List V}, ArgR O W H md ps vs → ArgQ false O W H md ps vs
  | [], _, _, h => h
  | true :: ms, _, _, ⟨p, pr, v, vr, e1, e2, h1, h2⟩ => ⟨p, pr, v, vr, e1, e2, RepB.q (show RepB O W H p v from h1), h2.q⟩
  | false :: ms, _, _, ⟨p, pr, v, vr, e1, e2, h1, h2⟩ => ⟨p, pr, v, vr, e1, e2, h1, h2.q⟩
theorem ArgQ.len {b : Bool} {O : ObS} {W : Wd} {H : Hp} : ∀ {md : List Bool} {ps : List PV} {vs : List V}, ArgQ b O W H md ps vs → vs.length = md.length ∧ ps.length = md.length
  | [], _, _, ⟨h1, h2⟩ => by rw [h1, h2]; exact ⟨rfl, rfl⟩
  | m :: ms, _, _, ⟨p, pr, v, vr, e1, e2, h1, h2⟩ => by rw [e1, e2, List.length_cons, List.length_cons, List.length_cons, h2.len.1, h2.len.2]; exact ⟨rfl, rfl⟩
theorem argS_slot {Y : Cy} : ∀ {md : List Bool} {ps : List PV} {vs : List V}, ArgQ Y.ef Y.O Y.W0 Y.H0 md ps vs → (md.any id = true → Y.nb = false) → ∀ (i : Nat) s, (argS md ps)[i]? = some s → ∃ v, vs[i]? = some v ∧ SlR Y Y.W0 Y.H0 (some v) s []
  | [], _, _, ⟨h1, h2⟩, _, i, s, e => by rw [h1] at e; simp [argS] at e
  | m :: ms, _, _, h, hnb, i, s, e => by
    obtain ⟨p, pr, v, vr, e1, e2, h1, h2⟩ := h
    subst e1; subst e2
    cases m with
    | true =>
      simp only [argS] at e
      cases i with
      | zero =>
        simp at e; subst e
        refine ⟨v, rfl, rfl, hnb rfl, v, rfl, ?_⟩
        exact (show RepQ Y.ef Y.O Y.W0 Y.H0 Y.W0 p v from h1)
      | succ i =>
        obtain ⟨w, q1, q2⟩ := argS_slot h2 (fun z => hnb (by simp only [List.any_cons, z, Bool.or_true])) i s (by simpa using e)
        exact ⟨w, by simpa using q1, q2⟩
    | false =>
      simp only [argS] at e
      cases i with
      | zero =>
        simp at e; subst e
        exact ⟨v, rfl, rfl, v, rfl, h1⟩
      | succ i =>
        obtain ⟨w, q1, q2⟩ := argS_slot h2 (fun z => hnb (by simp only [List.any_cons, z, Bool.or_true])) i s (by simpa using e)
        exact ⟨w, by simpa using q1, q2⟩
theorem env_start {Y : Cy} {N : List Str} {md : List Bool} {ps : List PV} {vs : List V} (h : ArgQ Y.ef Y.O Y.W0 Y.H0 md ps vs) (hn : md.length ≤ N.length) (hnb : md.any id = true → Y.nb = false) : EnvR Y Y.W0 Y.H0 (start N vs) (env0 N.length (argS md ps)) := by
  have hl := h.len
  have la := argS_len (md := md) (ps := ps) hl.2
  have len : (start N vs).length = (env0 N.length (argS md ps)).length := by
    unfold L2.start env0
    simp only [List.length_append, List.length_map, List.length_replicate, la, hl.1]
  refine ⟨Stp.refl Y.h0, len, List.replicate (env0 N.length (argS md ps)).length [], by simp, fun i s x b e1 e2 e3 => ?_, fun i j bi bj a e1 e2 a1 a2 => ?_⟩
  · have eb : b = [] := by
      rw [List.getElem?_replicate] at e3
      split at e3
      · exact (Option.some.inj e3).symm
      · cases e3
    subst eb
    unfold env0 at e1
    unfold L2.start at e2
    by_cases hi : i < md.length
    · rw [List.getElem?_append_left (by rw [la]; exact hi)] at e1
      rw [List.getElem?_append_left (by rw [List.length_map, hl.1]; exact hi), List.getElem?_map] at e2
      obtain ⟨v, q1, q2⟩ := argS_slot (Y := Y.at i) h hnb i s e1
      rw [q1] at e2
      cases e2
      exact q2
    · rw [List.getElem?_append_right (by rw [la]; omega), List.getElem?_replicate] at e1
      split at e1
      · cases e1
        exact rfl
      · cases e1
  · rw [List.getElem?_replicate] at e1
    split at e1
    · cases e1; cases a1
    · cases e1
section
variable {P : Program} {w : World} {K : PySem.W.Frag} {mg : Str → Option Value} {base : Heap} {O : ObS} {x qual : Str} {st : Stmt} {f : Addr} {fd : FuncData} {N ps : List Str} {k : Nat}
/-- the context of a body -/
abbrev CxB (P : Program) (w : World) (K : PySem.W.Frag) (mg : Str → Option Value) (base : Heap) (N : List Str) (qual : Str) (st : Stmt) (f : Addr) (cdv : Value) (A : Around) (outer : List Env) (sh : Shared) (H : Hp) (E : XK) : Cx := cxOf (L2.CX P w) P w K mg base N qual (defScope st) f cdv A outer sh H E
theorem fn_P (F : Fun K x qual st f fd) (S : FnScope N ps (defScope st)) {md : List Bool} (hl : ps.length = md.length) (hn : md.length ≤ N.length) {s : SX}
    (hbody : ∀ (cdv : Value) (A : Around) (outer : List Env) (sh : Shared) (H : Hp) (E : XK) (Y : Cy), Y.O = O → Y.nb = !(md.any id) → Takes (CxB P w K mg base N qual st f cdv A outer sh H E) Y.Wx → PassesOwn (model P w) (CxB P w K mg base N qual st f cdv A outer sh H E).A (CxB P w K mg base N qual st f cdv A outer sh H E).env (CxB P w K mg base N qual st f cdv A outer sh H E).xe →
      Room k (CxB P w K mg base N qual st f cdv A outer sh H E).A → PSs (CxB P w K mg base N qual st f cdv A outer sh H E) (defBody st) (tS Y s)) :
    FnOk P w K mg base (L2.CX P w) (k + 1) f fd ps (spP O md (mkP N.length md s)) := by
  refine F.okX S (fun vs H Q E h => by rw [h.len, hl]) (fun cdv A outer sh H vs Q E hr h => ?_)
  obtain ⟨W, qs, h0, ha, rc⟩ := h
  refine ⟨_, hbody cdv A outer sh H E ⟨O, W, H, h0, fun cls d _ H' => E cls d H', 0, .none, none, 0, fun _ => none, none, !(md.any id), false, 0, 0, fun _ _ h => by cases h⟩ rfl rfl (takes_of rfl rfl rfl rfl) (passes_of rfl) hr, W, env0 N.length (argS md qs), env_start (Y := ⟨O, W, H, h0, fun cls d _ H' => E cls d H', 0, .none, none, 0, fun _ => none, none, !(md.any id), false, 0, 0, fun _ _ h => by cases h⟩) ha.q hn (fun z => by simp [z]), ?_⟩
  unfold mkP at rc
  rw [if_pos ha.len.2] at rc
  unfold runP at rc
  cases e : s (env0 N.length (argS md qs)) with
  | rt p => rw [e] at rc; exact fun W' H' x t r => rc W' H' t x r
  | nx e' => rw [e] at rc; exact fun W' H' σ' _ E' => rc W' H' E'.st .non (Rep.non_iff.mpr rfl)
  | ex x e' => rw [e] at rc; exact fun W' H' σ' cls d _ E' z => rc W' H' cls d E'.st z
  | rf p => rw [e] at rc; exact False.elim rc
  | rs p S => rw [e] at rc; exact False.elim rc
  | rg p S => rw [e] at rc; exact False.elim rc
  | bk p => rw [e] at rc; exact False.elim rc
  | ct p => rw [e] at rc; exact False.elim rc
  | bad => rw [e] at rc; exact False.elim rc
theorem fn_F (F : Fun K x qual st f fd) (S : FnScope N ps (defScope st)) {md : List Bool} (hl : ps.length = md.length) (hn : md.length ≤ N.length) {s : SX}
    (hbody : ∀ (cdv : Value) (A : Around) (outer : List Env) (sh : Shared) (H : Hp) (E : XK) (Y : Cy), Y.O = O → Y.nb = !(md.any id) → Takes (CxB P w K mg base N qual st f cdv A outer sh H E) Y.Wx → PassesOwn (model P w) (CxB P w K mg base N qual st f cdv A outer sh H E).A (CxB P w K mg base N qual st f cdv A outer sh H E).env (CxB P w K mg base N qual st f cdv A outer sh H E).xe →
      Room k (CxB P w K mg base N qual st f cdv A outer sh H E).A → PSs (CxB P w K mg base N qual st f cdv A outer sh H E) (defBody st) (tS Y s)) :
    FnOk P w K mg base (L2.CX P w) (k + 1) f fd ps (spF O md (mkF N.length md s)) := by
  refine F.okX S (fun vs H Q E h => by rw [h.len, hl]) (fun cdv A outer sh H vs Q E hr h => ?_)
  obtain ⟨W, qs, h0, ha, rc⟩ := h
  refine ⟨_, hbody cdv A outer sh H E ⟨O, W, H, h0, fun cls d _ H' => E cls d H', 0, .none, none, 0, fun _ => none, none, !(md.any id), false, 0, 0, fun _ _ h => by cases h⟩ rfl rfl (takes_of rfl rfl rfl rfl) (passes_of rfl) hr, W, env0 N.length (argS md qs), env_start (Y := ⟨O, W, H, h0, fun cls d _ H' => E cls d H', 0, .none, none, 0, fun _ => none, none, !(md.any id), false, 0, 0, fun _ _ h => by cases h⟩) ha.q hn (fun z => by simp [z]), ?_⟩
  unfold mkF at rc
  rw [if_pos ha.len.2] at rc
  unfold runF at rc
  cases e : s (env0 N.length (argS md qs)) with
  | rf p => rw [e] at rc; exact fun W' H' a vs t n nw h r => rc W' H' t a vs n nw h r
  | ex x e' => rw [e] at rc; exact fun W' H' σ' cls d _ E' z => rc W' H' cls d E'.st z
  | rt p => rw [e] at rc; exact False.elim rc
  | nx e' => rw [e] at rc; exact False.elim rc
  | rs p S => rw [e] at rc; exact False.elim rc
  | rg p S => rw [e] at rc; exact False.elim rc
  | bk p => rw [e] at rc; exact False.elim rc
  | ct p => rw [e] at rc; exact False.elim rc
  | bad => rw [e] at rc; exact False.elim rc
end
/-- JoinError.__init__(self, ..), JoinError the own class at C0 -/
theorem pe_jeinit {X : Cx} {e : Expr} {es : List Expr} {ta : TA} {p1 p2 pos : Pos} {x : Str} {C0 : Addr} {pl : Sem Bool} (hm : X.mg x = some (.ref C0)) (hs : PySem.W.specialIn X.K (.ref C0) "__getattribute__" = some (some (.builtin "type.__getattribute__"))) (hrd : PySem.W.readsIn X.K C0 (.type "type") = true) (vV : PySem.W.findCls X.K (.ref C0) (.type "type") "__init__" = some (.val (.builtin "ValueError.__init__")))
    (ha : PA X (e :: es) ta) (hg : Gl X x := by rfl) (hdb : (x == ("__debug__" : Str)) = false := by decide)
    (hc : eval (.Call (.Attribute (.Name x p1) "__init__" p2) (e :: es) [] pos) X.env = (do
      let ov ← eval (.Name x p1) X.env
      standAt p2.atName
      let (f, first) ← holding [ov] (getMethod ov "__init__" pl)
      callWith pos f first (backTo pos (starEach (e :: es) X.env)) (backToKw pos (keywordEach [] X.env))) := by rfl)
    (he : starEach (e :: es) X.env = (false, eval e X.env) :: starEach es X.env := by rfl) (hpl : (backTo pos (starEach es X.env)).any (·.1) = false := by rfl) :
    PE X (.Call (.Attribute (.Name x p1) "__init__" p2) (e :: es) [] pos) (tVeI X.K ta) := by
  refine ⟨fun pins s σ H Q I h => ?_⟩
  refine PySem.W.methodCall_KW (ld_glob I hg hm ?_ hdb) hc
  refine PySem.W.method_cls I.kIn hs (PySem.W.cls_value I.kIn hrd vV (by decide +kernel) ?_)
  show wpAny _ _ (callWith pos (Value.builtin "ValueError.__init__") [] (backTo pos (starEach (e :: es) X.env)) []) _ _ _
  refine PyProof.Rows.callWith_method1 (thn (ha.run pos pins _ σ H _ (I.tok _) h) fun us s1 ⟨vs, H1, I1, r1, a, C, ws, ev, hl, T, ea, q⟩ => ?_) he hpl
  subst ev
  cases r1 with
  | @cons _ u0 _ ur ra rw' =>
    obtain rfl : u0 = Value.ref a := ra
    have hlen : ur.length ≤ sizeLine := by
      rw [← Paired.length rw', sizeLine_eq]
      omega
    exact oinit_ok T I1 ea hlen fun s' J => ⟨.non, H1, J, rfl, q⟩
/-- what a field store leaves -/
def spX1 (C : Addr) (f : Str) : Sp := fun vs H Q _ => ∃ (a : Addr) (y : V), vs = [.ref a, y] ∧ H a = some (exo a C none) ∧ ∀ dx, H dx = none → dx ≠ a → Q .non (upd (upd H dx (exd dx [(f, y)])) a (exo a C (some dx)))
def spX2 (C : Addr) (f g : Str) : Sp := fun vs H Q _ => ∃ (a : Addr) (y z : V), vs = [.ref a, y, z] ∧ H a = some (exo a C none) ∧ ∀ dx, H dx = none → dx ≠ a → Q .non (upd (upd (upd H dx (exd dx [(f, y)])) a (exo a C (some dx))) dx (exd dx [(g, z), (f, y)]))
/-- an error class of the text: made by its __init__ (promise sp, parameters ps) -/
def GXc (P : Program) (w : World) (K : PySem.W.Frag) (mg : Str → Option Value) (base : Heap) (x : Str) (C : Addr) (k : Nat) (sp : Sp) : Prop :=
  OexC K C ∧ mg x = some (.ref C) ∧ ∃ (fI : Addr) (fd : FuncData) (ps : List Str), PySem.W.findIn K (.ref C) "__init__" = some (some (.ref fI)) ∧ PySem.W.typeIn K (.ref fI) = some (.type "function") ∧ FnOk P w K mg base CX0 k fI fd ps sp ∧ Binds K fd ps []
section
variable {X : Cx} {Y : Cy} {e e2 : Expr} {f g : EX} {x : Str} {p pos pos2 : Pos} {C : Addr} {k : Nat}
theorem gs_raise1 (c fn : String) (G : GXc X.prog X.w X.K X.mg X.base x C k (spX1 C (PySem.Str.ofString fn))) (hcl : Y.O.cl c = some C) (hc : X.calm = true) (hr : Room (k + 1) X.A) (tk : Takes X Y.Wx) (ha : PA X [e] (tAr Y [false] (aCons f aNil)))
    (hg : Gl X x := by rfl) (hdb : (x == ("__debug__" : Str)) = false := by decide) (he : starEach [e] X.env = (false, eval e X.env) :: starEach [] X.env := by rfl) (hpl : (backTo pos (starEach [] X.env)).any (·.1) = false := by rfl) :
    PS X (.Raise (some (.Call (.Name x p) [e] [] pos)) none pos2) (tS Y (sRaise c [fn] (aCons f aNil))) := by
  obtain ⟨T, hm, fI, fd, ps, iC, tI, F1, hb⟩ := G
  refine ps_imp (ps_raise hc tk (pmk_oex T iC tI F1 hr hb .nil pass0 hg hm ha hdb he hpl)) fun D σ H ⟨W, env, E, q⟩ => ⟨W, env, E, ?_⟩
  have q : OP Y D W (sRaise c [fn] (aCons f aNil) env) := q
  refine OP.rp E q fun qs _ q W1 H1 t xs rx => ?_
  have E1 := E.step t
  obtain ⟨p1, pr, v1, vr, e1, e2, h1, e3, e4⟩ := rx
  subst e3; subst e4; subst e1; subst e2
  refine ⟨by simp, fun a na => ⟨a, v1, rfl, upd_same, fun dx nd ne => ⟨rfl, dx, [(PySem.Str.ofString fn, v1)], upd_same, ?_, ?_, ?_⟩⟩⟩
  · rw [upd_ne ne, upd_same]
  · rw [upd_ne ne] at nd; exact nd
  · have nd' : H1 dx = none := by rw [upd_ne ne] at nd; exact nd
    have hh : upd (del (upd (upd (upd H1 a (exo a C none)) dx (exd dx [(PySem.Str.ofString fn, v1)])) a (exo a C (some dx))) a) dx (.xd [(PySem.Str.ofString fn, v1)]) = upd H1 dx (.xd [(PySem.Str.ofString fn, v1)]) := by
      funext b
      by_cases hb : b = dx
      · subst hb; rw [upd_same, upd_same]
      · rw [upd_ne hb, upd_ne hb]
        by_cases ha : b = a
        · subst ha; rw [del_same, na]
        · rw [del_ne ha, upd_ne ha, upd_ne hb, upd_ne ha]
    rw [hh]
    have st : Stp W1 H1 (putW W1 dx (.xd [(PySem.Str.ofString fn, v1)])) (upd H1 dx (.xd [(PySem.Str.ofString fn, v1)])) := Stp.new E1.ho nd'
    refine q _ _ σ (.ref C) (some dx) (t.le.trans st.le) (E1.step st) ⟨C, hcl, rfl, .inr ⟨dx, _, rfl, putW_same, RepX.cons (by simp [List.lookup]) (h1.mono st.le) RepX.nil⟩⟩
end
/-- what is raised by the classes known, against the clause's class c, named h -/
def XM (O : ObS) (h : String) (c : Value) : Prop := ∀ n C, O.cl n = some C → PySem.W.exmOne O.K (.ref C) c = some (subX n h)
theorem EnvR.wish {Y : Cy} {W : Wd} {H : Hp} {σ : St} {env : Ev} (Wx : WX) (E : EnvR Y W H σ env) : EnvR { Y with Wx := Wx } W H σ env := by
  obtain ⟨bs, l, h, d⟩ := E.ex
  refine ⟨E.st, E.len, bs, l, fun i s x b e1 e2 e3 => ?_, d⟩
  have q := h i s x b e1 e2 e3
  cases s <;> exact q
theorem EnvR.unwish {Y : Cy} {W : Wd} {H : Hp} {σ : St} {env : Ev} {Wx : WX} (E : EnvR { Y with Wx := Wx } W H σ env) : EnvR Y W H σ env := by
  obtain ⟨bs, l, h, d⟩ := E.ex
  refine ⟨E.st, E.len, bs, l, fun i s x b e1 e2 e3 => ?_, d⟩
  have q := h i s x b e1 e2 e3
  cases s <;> exact q
def Cy.su (Y : Cy) (a : Addr) (cls : Value) (d : Option Addr) : Cy := { Y with Wx := fun _ _ _ _ => False, xa := a, xc := cls, xd := d }
theorem noX_at {e : Ev} (h : noX e = true) {i : Nat} {s : Sl} (hs : e[i]? = some s) : ∀ x, s ≠ .x x := by
  unfold noX at h
  rw [List.all_eq_true] at h
  intro x z
  have := h s (List.mem_of_getElem? hs)
  rw [z] at this
  cases this
theorem EnvR.su {Y : Cy} {W : Wd} {H : Hp} {σ : St} {env : Ev} (a : Addr) (cls : Value) (d : Option Addr) (E : EnvR Y W H σ env) (n : noX env = true) : EnvR (Y.su a cls d) W H σ env := by
  obtain ⟨bs, l, h, dd⟩ := E.ex
  refine ⟨E.st, E.len, bs, l, fun i s x b e1 e2 e3 => ?_, dd⟩
  have q := h i s x b e1 e2 e3
  cases s with
  | x z => exact (noX_at n e1 z rfl).elim
  | u => exact q
  | v p => exact q
  | b p => exact q
  | o ps => exact q
  | d t ps => exact q
  | n k fs => exact q
  | k ps => exact q
  | kd t ps => exact q
  | h p S => exact q
section
variable {X : Cx} {Y : Cy} {x n : Str} {c : Value} {body suite : List Stmt} {b₀ : Stmt} {np pos pos' : Pos} {s t : SX}
end
end JP

set_option Elab.async false
set_option linter.all false
set_option maxRecDepth 100000
namespace JP
open PySem L2
section
variable {X : Cx} {Y : Cy} {a b c e : Expr} {es : List Expr} {f g k : EX} {fa : AX} {pos p : Pos}
theorem ge_add (ha : PE X a (tB Y f)) (hb : PE X b (tB Y g)) : PE X (.BinOp a .Add b pos) (tP Y (eOp pAdd f g)) := by
  obtain ⟨r, ho, hr⟩ := r2s_add (O := Y.O) (X := X)
  exact ge_op ho hr ha hb
theorem ge_mul (ha : PE X a (tB Y f)) (hb : PE X b (tB Y g)) : PE X (.BinOp a .Mult b pos) (tP Y (eOp pMul f g)) := by
  obtain ⟨r, ho, hr⟩ := r2s_mul (O := Y.O) (X := X)
  exact ge_op ho hr ha hb
theorem ge_sub (ha : PE X a (tB Y f)) (hb : PE X b (tB Y g)) : PE X (.BinOp a .Sub b pos) (tP Y (eOp pSub f g)) := ge_op op_sub r2s_sub ha hb
theorem ge_mod (ha : PE X a (tB Y f)) (hb : PE X b (tB Y g)) : PE X (.BinOp a .Mod b pos) (tP Y (eOp pMod f g)) := ge_op op_mod r2s_mod ha hb
theorem ge_div (ha : PE X a (tB Y f)) (hb : PE X b (tB Y g)) : PE X (.BinOp a .FloorDiv b pos) (tP Y (eOp pDiv f g)) := ge_op op_fdivW r2s_div ha hb
theorem ge_pow (ha : PE X a (tB Y f)) (hb : PE X b (tB Y g)) : PE X (.BinOp a .Pow b pos) (tP Y (eOp pPow f g)) := ge_op op_pow r2s_pow ha hb
theorem ge_neg (ha : PE X a (tB Y f)) : PE X (.UnaryOp .USub a pos) (tP Y (eUn pNeg f)) := ge_un un_neg r1s_neg ha
theorem gt_gt (ha : PE X a (tB Y f)) (hb : PE X b (tB Y g)) : PT X (.Compare a [.Gt] [b] pos) (tT Y (eOp pGt f g)) := gt_cmp op_gt r2s_gt ha hb (nomark _)
theorem gt_ge (ha : PE X a (tB Y f)) (hb : PE X b (tB Y g)) : PT X (.Compare a [.GtE] [b] pos) (tT Y (eOp pGe f g)) := gt_cmp op_ge r2s_ge ha hb (nomark _)
theorem ge_eq (hK : Y.O.K = X.K) (hu : X.A.units + 64 < cLine) (ha : PE X a (tB Y f)) (hb : PE X b (tB Y g)) : PE X (.Compare a [.Eq] [b] pos) (tP Y (eOp pEq f g)) := ge_cmp (op_eqD hu) (by rw [← hK]; exact r2s_eq) ha hb (nomark _)
theorem ge_ne (hK : Y.O.K = X.K) (hu : X.A.units + 64 < cLine) (ha : PE X a (tB Y f)) (hb : PE X b (tB Y g)) : PE X (.Compare a [.NotEq] [b] pos) (tP Y (eOp pNe f g)) := ge_cmp (op_neD hu) (by rw [← hK]; exact r2s_ne) ha hb (nomark _)
theorem gt_eq (hK : Y.O.K = X.K) (hu : X.A.units + 64 < cLine) (ha : PE X a (tB Y f)) (hb : PE X b (tB Y g)) : PT X (.Compare a [.Eq] [b] pos) (tT Y (eOp pEq f g)) := gt_cmp (op_eqD hu) (by rw [← hK]; exact r2s_eq) ha hb (nomark _)
theorem gt_ne (hK : Y.O.K = X.K) (hu : X.A.units + 64 < cLine) (ha : PE X a (tB Y f)) (hb : PE X b (tB Y g)) : PT X (.Compare a [.NotEq] [b] pos) (tT Y (eOp pNe f g)) := gt_cmp (op_neD hu) (by rw [← hK]; exact r2s_ne) ha hb (nomark _)
theorem gt_is (ha : PE X a (tB Y f)) (hb : PE X b (tB Y g)) : PT X (.Compare a [.Is] [b] pos) (tT Y (eOp pIs2 f g)) := by
  obtain ⟨r, ho, hr⟩ := r2s_is (O := Y.O) (X := X)
  exact gt_cmp ho hr ha hb (nomark _)
theorem gt_ninS (ha : PE X a (tB Y f)) (hb : PE X b (tB Y g)) (hm : behindInMarks .NotIn b = false := by rfl) : PT X (.Compare a [.NotIn] [b] pos) (tT Y (eOp pNinS f g)) := gt_cmp op_notIn_sign r2s_ninS ha hb hm
theorem ge_len (hK : Y.O.K = X.K) (hm : X.mg "len" = none) (ha : PE X e (tB Y f)) (hg : Gl X "len" := by rfl) (he : starEach [e] X.env = (false, eval e X.env) :: starEach [] X.env := by rfl) (hpl : (backTo pos (starEach [] X.env)).any (·.1) = false := by rfl) : PE X (.Call (.Name "len" p) [e] [] pos) (tP Y (eCB (on1 pLen) (aCons f aNil))) :=
  ge_callB call_len (crs_len hK) hg hm PySem.boot_len (ga_b ha ga_nil he) (by decide) (by decide) he hpl
theorem ge_max2 (hc : X.calm = true) (hm : X.mg "max" = none) (ha : PE X a (tB Y f)) (hb : PE X b (tB Y g)) (hg : Gl X "max" := by rfl) (he : starEach [a, b] X.env = (false, eval a X.env) :: starEach [b] X.env := by rfl) (he2 : starEach [b] X.env = (false, eval b X.env) :: starEach [] X.env := by rfl) (hpl : (backTo pos (starEach [b] X.env)).any (·.1) = false := by rfl) : PE X (.Call (.Name "max" p) [a, b] [] pos) (tP Y (eCB (on2 pMax2) (aCons f (aCons g aNil)))) :=
  ge_callB (call_max2 hc) crs_max2 hg hm (by decide +kernel) (ga_b ha (ga_b hb ga_nil he2) he) (by decide) (by decide) he hpl
theorem gf_list (hK : Y.O.K = X.K) (hc : X.calm = true) (hm : X.mg "list" = none) (ha : PE X e (tB Y f)) (hg : Gl X "list" := by rfl) (he : starEach [e] X.env = (false, eval e X.env) :: starEach [] X.env := by rfl) (hpl : (backTo pos (starEach [] X.env)).any (·.1) = false := by rfl) : PE X (.Call (.Name "list" p) [e] [] pos) (tF Y (lCB (on1 lOf) (aCons f aNil))) := by
  obtain ⟨r, h1, h2⟩ := crf_list (O := Y.O) (X := X) hK hc
  exact gf_callT h1 h2 hg hm (by decide +kernel) (ga_b ha ga_nil he) (by decide) (by decide) he hpl
def R2F (O : ObS) (r : R2) (h : PV → PV → Option (List PV)) : Prop := ∀ (W : Wd) (H : Hp) (x y : V) (p q : PV) (z : List PV) (Q : VK), Hold W H → RepB O W H p x → RepB O W H q y → h p q = some z → (∀ W' H' a vs, Stp W H W' H' → H a = none → W' a = none → H' a = some (.lst vs) → RepL O W' z vs → Q (.ref a) H') → r x y H Q
theorem t_opF {r : R2} {h : PV → PV → Option (List PV)} (hr : R2F Y.O r h) : ∀ σ H Q, tF Y (lOp h f g) σ H Q → tOp r (tB Y f) (tB Y g) σ H Q := by
  intro σ H Q ⟨W, env, E, k⟩
  refine ⟨W, env, E, (RP.bind E.ho k).mono fun W1 H1 p s1 k1 x rx => ?_⟩
  have E1 := E.step s1
  refine ⟨W1, env, E1, (RP.bind E1.ho k1).mono fun W2 H2 q s2 k2 y ry => ?_⟩
  obtain ⟨z, hz, kz⟩ := RP.ofO k2
  exact hr W2 H2 x y p q z Q (E1.step s2).ho (rx.step s2) ry hz fun W' H' a vs t n w h' rl => kz W' H' t a vs (s1.back E.ho (s2.back E1.ho n)) w h' rl
def rCatQ (K : PySem.W.Frag) : R2 := fun x y H Q => ∃ l b xs zs, x = .ref l ∧ y = .ref b ∧ SqL K H l xs ∧ SqL K H b zs ∧ xs.length + zs.length ≤ sizeLine ∧ ∀ p, H p = none → Q (.ref p) (upd H p (.lst (xs ++ zs)))
theorem op_catQ : OpR X (binaryOp .Add) (rCatQ X.K) := by
  intro pins s σ H x y v u Q I rx ry h
  obtain ⟨l, b, xs, zs, rfl, rfl, hH, hB, hz, q⟩ := h
  cases rx
  cases ry
  obtain ⟨its, r, ht, hz1⟩ := I.list hH
  obtain ⟨its2, r2, ht2, hz2⟩ := I.list hB
  obtain ⟨⟨cls, dd, data, sl⟩, ho, hc, n, hd⟩ := id ht.isList
  obtain ⟨⟨cls2, dd2, data2, sl2⟩, ho2, hc2, n2, hd2⟩ := id ht2.isList
  simp only at hc hd hc2 hd2
  subst hc hd hc2 hd2
  have ea : its.toArray ++ its2.toArray = (its ++ its2).toArray := by simp
  have e1 := r.length
  have e2 := r2.length
  refine PySem.concat_meets ⟨_, ho, rfl⟩ ⟨_, ho2, rfl⟩ noFill_list_add seq_list_add PySem.F.slot_list_add PySem.F.entry_list_add (PySem.F.args_list_add_2 _ _) (PyProof.Rows.list_addW l b its.toArray its2.toArray n n2 dd dd2 sl sl2 (by rw [List.size_toArray, List.size_toArray]; omega)) ⟨ho, ho2, ?_⟩
  rw [ea]
  exact ⟨.ref _, _, I.lnew (t' := s.toks) (r.append r2) (by rw [List.length_append]; omega), rfl, q _ I.fresh⟩
theorem RepB.sq {O : ObS} {W : Wd} {H : Hp} {p : PV} {x : V} {xs : List PV} (h0 : Hold W H) (r : RepB O W H p x) (e : p = .lst xs ∨ p = .scr xs) : ∃ a vs, x = .ref a ∧ SqL O.K H a vs ∧ RepL O W xs vs := by
  rcases e with e | e
  · subst e
    obtain ⟨a, vs, e1, e2, e3⟩ := r.lst h0
    exact ⟨a, vs, e1, SqL.of e2, e3⟩
  · subst e
    obtain ⟨a, vs, e1, e2, e3⟩ := r.scr
    exact ⟨a, vs, e1, e2.sq h0, e3⟩
theorem gf_cat (hK : Y.O.K = X.K) (ha : PE X a (tB Y f)) (hb : PE X b (tB Y g)) : PE X (.BinOp a .Add b pos) (tF Y (lOp lCat f g)) := by
  refine pe_imp (pe_op op_catQ ha hb) (t_opF ?_)
  intro W H x y p q z Q h0 rx ry hz k
  have key : ∃ l l', (p = .lst l ∨ p = .scr l) ∧ (q = .lst l' ∨ q = .scr l') ∧ l.length + l'.length ≤ 1000000 ∧ z = l ++ l' := by
    cases p <;> cases q <;> simp only [lCat] at hz <;> first | (cases hz; done) | (split at hz; (cases hz; exact ⟨_, _, by simp, by simp, ‹_›, rfl⟩); (cases hz))
  obtain ⟨l, l', c1, c2, c, rfl⟩ := key
  obtain ⟨a1, vs1, e1, h1, r1⟩ := rx.sq h0 c1
  obtain ⟨a2, vs2, e2, h2, r2⟩ := ry.sq h0 c2
  exact ⟨a1, a2, vs1, vs2, e1, e2, hK ▸ h1, hK ▸ h2, by rw [← r1.len, ← r2.len]; exact size_of c, fun q hq => k W _ q _ (Stp.new0 h0 hq) hq (h0.none hq) upd_same (r1.app r2)⟩
theorem RepL.repl {O : ObS} {W : Wd} {ps : List PV} {vs : List V} (r : RepL O W ps vs) : ∀ n : Nat, RepL O W (List.replicate n ps).flatten (List.replicate n vs).flatten
  | 0 => by simp; exact RepL.nil
  | n + 1 => by
    rw [List.replicate_succ, List.replicate_succ, List.flatten_cons, List.flatten_cons]
    exact r.app (RepL.repl r n)
theorem gf_rep (ha : PE X a (tB Y f)) (hb : PE X b (tB Y g)) : PE X (.BinOp a .Mult b pos) (tF Y (lOp lRep f g)) := by
  refine pe_imp (pe_op op_rep ha hb) (t_opF ?_)
  intro W H x y p q z Q h0 rx ry hz k
  cases p with
  | lst l =>
    cases q with
    | int n =>
      dsimp only [lRep] at hz
      by_cases c : (0 ≤ n && n ≤ 1000000 && l.length * n.toNat ≤ 1000000) = true
      · rw [if_pos c] at hz
        cases hz
        simp only [Bool.and_eq_true, decide_eq_true_eq] at c
        obtain ⟨a1, vs1, e1, h1, r1⟩ := rx.lst h0
        exact ⟨a1, n, vs1, e1, ry.int, h1, by omega, by omega, by rw [← r1.len]; exact size_of c.2, fun q hq => k W _ q _ (Stp.new0 h0 hq) hq (h0.none hq) upd_same (RepL.repl r1 _)⟩
      · rw [if_neg c] at hz; cases hz
    | _ => cases hz
  | _ => cases q <;> cases hz
theorem numL_ok (n : Nat) : okS (numD n) := fun c hc => by
  have := TL.numL_digits n c hc
  omega
theorem log2_of {i : Int} (h0 : 0 ≤ i) (h1 : i < 10 ^ 200) : i.natAbs.log2 < 1920 := by
  by_cases hz : i.natAbs = 0
  · rw [hz]; decide
  · rw [Nat.log2_lt hz]
    have h2 : i.natAbs < 10 ^ 200 := by
      have : (i.natAbs : Int) < 10 ^ 200 := by omega
      exact_mod_cast this
    exact Nat.lt_of_lt_of_le h2 (by decide +kernel)
theorem ge_str1 (hm : X.mg "str" = none) (ha : PE X e (tB Y f)) (hg : Gl X "str" := by rfl) (he : starEach [e] X.env = (false, eval e X.env) :: starEach [] X.env := by rfl) (hpl : (backTo pos (starEach [] X.env)).any (·.1) = false := by rfl) : PE X (.Call (.Name "str" p) [e] [] pos) (tP Y (eCB (on1 pStr) (aCons f aNil))) := by
  refine ge_callT call_str_int ?_ hg hm (by decide +kernel) (ga_b ha ga_nil he) (by decide) (by decide) he hpl
  intro W H ps xs z Q h0 ha hz k
  obtain ⟨p, x, e1, e2, r⟩ := ha.one
  subst e1; subst e2
  cases p with
  | int i =>
    have hz : pStr (.int i) = some z := hz
    dsimp only [pStr] at hz
    by_cases c : (0 ≤ i && i < bigI) = true
    · rw [if_pos c] at hz
      cases hz
      simp only [Bool.and_eq_true, decide_eq_true_eq] at c
      refine ⟨i, by rw [r.int], log2_of c.1 c.2, k W H _ (Stp.refl h0) (Rep.str_iff.mpr ⟨?_, numL_ok _⟩)⟩
      have e : i = ((i.toNat : Nat) : Int) := by omega
      have e2 := TL.tl_num i.toNat
      rw [← e] at e2
      congr 1
      have : (Str.ofString (toString i)).cps.toList = numD i.toNat := e2
      show Str.ofString (toString i) = tx (numD i.toNat)
      unfold tx
      rw [← this]
    · rw [if_neg c] at hz; cases hz
  | _ => cases hz
theorem ge_int1 (hm : X.mg "int" = none) (ha : PE X e (tB Y f)) (hg : Gl X "int" := by rfl) (he : starEach [e] X.env = (false, eval e X.env) :: starEach [] X.env := by rfl) (hpl : (backTo pos (starEach [] X.env)).any (·.1) = false := by rfl) : PE X (.Call (.Name "int" p) [e] [] pos) (tP Y (eCB (on1 pInt) (aCons f aNil))) := by
  refine ge_callT (call_int_str.or call_int1) ?_ hg hm (by decide +kernel) (ga_b ha ga_nil he) (by decide) (by decide) he hpl
  intro W H ps xs z Q h0 ha hz k
  obtain ⟨p, x, e1, e2, r⟩ := ha.one
  subst e1; subst e2
  cases p with
  | str s =>
    have hz : pInt (.str s) = some z := hz
    dsimp only [pInt] at hz
    by_cases c : (digS s && !s.isEmpty && s.length ≤ 600) = true
    · rw [if_pos c] at hz
      cases hz
      simp only [Bool.and_eq_true, decide_eq_true_eq] at c
      refine .inl ⟨tx s, (valS s : Int), by rw [r.str.1], ?_, by rw [tx_len]; omega, k W H _ (Stp.refl h0) (Rep.int_iff.mpr rfl)⟩
      exact SX.int_S c.1.1 (fun z => by rw [z] at c; simp at c) (by omega)
    · rw [if_neg c] at hz; cases hz
  | bl b =>
    cases hz
    exact .inr (.inr ⟨b, by rw [r.bl], k W H _ (Stp.refl h0) (Rep.int_iff.mpr rfl)⟩)
  | int i =>
    cases hz
    exact .inr (.inl ⟨i, by rw [r.int], k W H _ (Stp.refl h0) (Rep.int_iff.mpr rfl)⟩)
  | _ => cases hz
theorem ge_dct0 : PE X (.Dict [] [] pos) (tP Y (eC (.dct false []))) := by
  refine pe_imp pe_dnewK fun σ H Q ⟨W, env, E, r⟩ => ?_
  intro d hd
  refine r (putP W d (TolF (.dK []))) _ (Stp.newP E.ho (Gd.tol (.inl ⟨[], rfl⟩)) (Nl.tol (.inl ⟨[], rfl⟩)) hd (.inl rfl)) (.ref d) ?_
  exact Rep.dct_iff.mpr ⟨d, _, rfl, putP_same, .inl ⟨rfl, [], rfl, by simp only [RepK]⟩⟩
theorem idx10 : ∀ c : Nat, c < 10 → Txt.index0 (tx [48, 49, 50, 51, 52, 53, 54, 55, 56, 57]) (tx [48 + c]) = some c := by decide +kernel
theorem ge_idx10 {p1 apos cpos : Pos} {j : Nat} {x : Str} (hc : X.calm = true) (tk : Takes X Y.Wx) (ha : PE X e (tB Y f)) (hx : x = tx [48, 49, 50, 51, 52, 53, 54, 55, 56, 57] := by decide +kernel)
    (hfew : ((backTo cpos (starEach [e] X.env)).all (fun x => !x.1) && (backToKw cpos (keywordEach [] X.env)).all (fun x => x.1.isSome) && decide ([e].length + ([] : List Keyword).length + (if ([] : List Keyword).isEmpty then 0 else 1) < 30)) = true := by rfl)
    (hbase : attributeBase (.Constant (.str x) j p1) "index" X.env (eval (.Constant (.str x) j p1) X.env) = eval (.Constant (.str x) j p1) X.env := by rfl) (hline : (apos.endLine == cpos.line) = true := by rfl) (hs : starEach [e] X.env = (false, eval e X.env) :: starEach [] X.env := by rfl) (hplain : (backTo cpos (starEach [] X.env)).any (·.1) = false := by rfl) :
    PE X (.Call (.Attribute (.Constant (.str x) j p1) "index" apos) [e] [] cpos) (tP Y (eUn pIdx10 f)) := by
  subst hx
  refine pe_imp (pe_bmS PySem.F.plainAttrs_str PySem.F.slot_str_index PySem.F.type_str_index (mt_indexX hc tk) pe_str (pa_cons ha pa_nil hs) hbase hfew hline hs hplain) fun σ H Q ⟨W, env, E, r⟩ => ?_
  refine ⟨rfl, W, env, E, (RP.bind E.ho r).mono fun W1 H1 q s1 k1 x rx => ?_⟩
  obtain ⟨z, hz, kz⟩ := RP.ofO k1
  match q, hz, rx with
  | .str [c], hz, rx =>
    dsimp only [pIdx10] at hz
    by_cases hc : (48 ≤ c && c ≤ 57) = true
    · rw [if_pos hc] at hz
      cases hz
      simp only [Bool.and_eq_true, decide_eq_true_eq] at hc
      have e1 := idx10 (c - 48) (by omega)
      rw [show 48 + (c - 48) = c by omega] at e1
      refine ⟨_, tx [c], rfl, by rw [rx.str.1], fun k hk => ?_, fun hn => ?_⟩
      · have e2 : some (c - 48) = some k := e1.symm.trans hk
        cases e2
        refine kz W1 H1 (Stp.refl (E.step s1).ho) _ (Rep.int_iff.mpr ?_)
        congr 1
        omega
      · have e2 := e1.symm.trans hn
        cases e2
    · rw [if_neg hc] at hz; cases hz
end
end JP

set_option Elab.async false
set_option linter.all false
set_option maxRecDepth 100000
namespace JP
open PySem L2
section
variable {P : Program} {w : World} {K : PySem.W.Frag} {mg : Str → Option Value} {base : Heap} {qual : Str} {st : Stmt} {f : Addr} {fd : FuncData} {k : Nat} {C : Addr}
/-- the context of an __init__ of an error -/
abbrev CxI (P : Program) (w : World) (K : PySem.W.Frag) (mg : Str → Option Value) (base : Heap) (N : List Str) (qual : Str) (st : Stmt) (f : Addr) (cdv : Value) (A : Around) (outer : List Env) (sh : Shared) (H : Hp) (E : XK) : Cx := (cxOf CX0 P w K mg base N qual (defScope st) f cdv A outer sh H E).nox
theorem init1_ok {fn : Str} {m : V} (F : Fun K "__init__" qual st f fd) (S : FnScope ["self", fn] ["self", fn] (defScope st)) (hT : OexC K C) (hno : PySem.W.findIn K (.ref C) fn = some none)
    (hbody : ∀ (cdv : Value) (A : Around) (outer : List Env) (sh : Shared) (H : Hp) (E : XK), PSs (CxI P w K mg base ["self", fn] qual st f cdv A outer sh H E) (defBody st) (tSeq (tDrop (tVeI K (tCons (tVar 0) (tCons (tC m) tNil)))) (tOst K fn (tVar 0) (tVar 1)))) :
    FnOk P w K mg base CX0 (k + 1) f fd ["self", fn] (spX1 C fn) := by
  refine F.ok S (fun vs H Q E h => by obtain ⟨a, y, rfl, _⟩ := h; rfl) (fun cdv A outer sh H vs Q E hr h => ⟨_, hbody cdv A outer sh H E, ?_⟩)
  obtain ⟨a, y, rfl, ha, k⟩ := h
  exact ⟨.ref a, rfl, a, C, [m], rfl, by simp, hT, ha, y, rfl, .ref a, rfl, a, C, rfl, hT, hno, .inl ⟨ha, fun dx n ne => k dx n ne⟩⟩
end
/-- an error class with one field -/
structure XE1 (P : Program) (w : World) (K : PySem.W.Frag) (mg : Str → Option Value) (base : Heap) (O : ObS) (c fn : String) (C : Addr) (k : Nat) : Prop where
  made : GXc P w K mg base (PySem.Str.ofString c) C k (spX1 C (PySem.Str.ofString fn))
  cl : O.cl c = some C
  mg : mg (PySem.Str.ofString c) = some (.ref C)
  xf : XfC K C
  n1 : PySem.W.findIn K (.ref C) (PySem.Str.ofString fn) = some none
  xm : XM O c (.ref C)
structure XE2 (P : Program) (w : World) (K : PySem.W.Frag) (mg : Str → Option Value) (base : Heap) (O : ObS) (c fn gn : String) (C : Addr) (k : Nat) : Prop where
  made : GXc P w K mg base (PySem.Str.ofString c) C k (spX2 C (PySem.Str.ofString fn) (PySem.Str.ofString gn))
  cl : O.cl c = some C
  mg : mg (PySem.Str.ofString c) = some (.ref C)
  xf : XfC K C
  n1 : PySem.W.findIn K (.ref C) (PySem.Str.ofString fn) = some none
  n2 : PySem.W.findIn K (.ref C) (PySem.Str.ofString gn) = some none
  xm : XM O c (.ref C)
/-- a class of the text against another one -/
theorem exm_of {K : PySem.W.Frag} {C D : Addr} {b : Bool} (h1 : PySem.W.subIn K (.ref D) (.type "BaseException") = some true) (h2 : PySem.W.hasDictIn K D = true) (h3 : PySem.W.typeIn K (.ref D) = some (.type "type")) (h4 : PySem.W.subIn K (.ref C) (.ref D) = some b) : PySem.W.exmOne K (.ref C) (.ref D) = some b := PySem.W.exm_ref h1 h2 h3 h4
def spLaw (K : PySem.W.Frag) (n : Nat) : Sp := fun vs H Q _ => ∃ (a : Addr) (ns : List Int), vs = [.ref a] ∧ SqL K H a (ns.map V.int) ∧ ns.length ≤ n ∧ ∀ H', Q (.bl true) H'
theorem ints_rep {O : ObS} {W : Wd} : ∀ ns : List Int, RepL O W (ns.map PV.int) (ns.map V.int)
  | [] => RepL.nil
  | n :: ns => RepL.cons (Rep.int_iff.mpr rfl) (ints_rep ns)
theorem law_sp {O : ObS} {n : Nat} {m : List PV → R PV} (hm : ∀ ns : List Int, ns.length ≤ n → m [.scr (ns.map .int)] = .ok (.bl true)) (vs : List V) (H : Hp) (Q : VK) (E : XK) (h : spLaw O.K n vs H Q E) : spP O [false] m vs H Q E := by
  obtain ⟨a, ns, rfl, hs, hl, k⟩ := h
  rcases hs with hs | hs
  · refine ⟨fun b => if b = a then some (fun o => Rdl o (ns.map V.int)) else none, [.scr (ns.map .int)], ⟨fun b f e => ?_, fun b f e => ?_⟩, ⟨_, [], .ref a, [], rfl, rfl, Rep.scr_iff.mpr ⟨a, ns.map V.int, rfl, .inl ⟨_, if_pos rfl, fun _ z => z⟩, ints_rep ns⟩, rfl, rfl⟩, ?_⟩
    · have e : (if b = a then some (fun o => Rdl o (ns.map V.int)) else none) = some f := e
      by_cases hb : b = a
      · subst hb
        rw [if_pos rfl] at e; cases e
        rcases hs with hs | ⟨ob, hs⟩
        · exact ⟨_, hs, .inl rfl⟩
        · exact ⟨_, hs, .inr ⟨ob, rfl⟩⟩
      · rw [if_neg hb] at e; cases e
    · have e : (if b = a then some (fun o => Rdl o (ns.map V.int)) else none) = some f := e
      by_cases hb : b = a
      · subst hb
        rw [if_pos rfl] at e; cases e
        exact Gd.no fun vs z => by
          rcases z with z | ⟨ob, z⟩ <;> cases z
      · rw [if_neg hb] at e; cases e
    · rw [hm ns hl]
      intro W' H' _ x rx
      rw [Rep.bl_iff.mp rx]
      exact k H'
  · refine ⟨fun b => none, [.scr (ns.map .int)], ⟨fun b f e => (by cases e), fun b f e => (by cases e)⟩, ⟨_, [], .ref a, [], rfl, rfl, Rep.scr_iff.mpr ⟨a, ns.map V.int, rfl, .inr (.inr hs), ints_rep ns⟩, rfl, rfl⟩, ?_⟩
    rw [hm ns hl]
    intro W' H' _ x rx
    rw [Rep.bl_iff.mp rx]
    exact k H'
theorem walk_law {l : PySem.W.OpenLaw} {q : Program} {loose : List Str} {XP : (Str → Option Value) → Heap → Prop} {YP : World → Heap → Prop} {d : DefRec} {K : Params → PySem.W.Frag} {k : Nat} {x : Str} (hn : l.most = some 63) (hdf : d.params.defaults = []) (hr : Room k callerA)
    (hY : ∀ (w : World) (h : Heap), YP w h → (K w.params).In h)
    (F : ∀ (w : World) (mg : Str → Option Value) (fa : Addr) (h : Heap), (K w.params).In h → h.Ns mainGlobals mg → mg d.name = some (.ref fa) →
      ∃ fd : FuncData, (∀ (s : Shared) (u : Value), BindsTo s fd ⟨[u], []⟩ [(x, u)]) ∧ ∀ base : Heap, (K w.params).In base → base.Ns mainGlobals mg → FnOk l.prog w (K w.params) mg base (L2.CX l.prog w) k fa fd [x] (spLaw (K w.params) 63)) :
    PySem.W.WalkO q loose XP YP l.row.toRowW d [] (fun f vs => PySem.call f vs) :=
  L2.walk_of (n := 63) (k := k) (x := x) (CX := fun w => L2.CX l.prog w) (sp := fun w => spLaw (K w.params) 63) hn (by decide) hdf hr hY F (fun _ _ a ns hl _ hS => ⟨a, ns, rfl, hS, hl, fun _ => rfl⟩) fun _ _ _ _ _ z => by
    obtain ⟨_, _, _, _, _, _, _, _, _, _, _, _, z⟩ := z
    exact z
end JP

set_option Elab.async false
set_option linter.all false
set_option maxRecDepth 100000
namespace JP
open PySem L2
theorem kRep_eq {q p : PV} {k k0 : Key} (h : kRep q k) (h0 : kRep p k0) : eqP q p = decide (k = k0) := by
  cases q with
  | int i =>
    cases p with
    | int j => rw [show k = .inl i from h, show k0 = .inl j from h0]; simp only [eqP, Sum.inl.injEq]; exact Bool.beq_eq_decide_eq i j
    | str s => rw [show k = .inl i from h, h0.1]; simp [eqP]
    | _ => exact False.elim h0
  | str s =>
    cases p with
    | int j => rw [h.1, show k0 = .inl j from h0]; simp [eqP]
    | str t =>
      rw [h.1, h0.1]
      by_cases e : s = t
      · subst e; simp [eqP]
      · have : tx s ≠ tx t := fun z => e (tx_inj z)
        simp [eqP, e, this]
    | _ => exact False.elim h0
  | _ => exact False.elim h
theorem kRepL_eq : ∀ {qs ps : List PV} {ks k0 : List Key}, kRepL qs ks → kRepL ps k0 → eqPs qs ps = decide (ks = k0)
  | [], [], _, _, h, h0 => by rw [show _ = [] from h, show _ = [] from h0]; simp [eqPs]
  | [], p :: ps, _, _, h, h0 => by
    obtain ⟨k, r, e, _⟩ := h0
    rw [show _ = [] from h, e]; simp [eqPs]
  | q :: qs, [], _, _, h, h0 => by
    obtain ⟨k, r, e, _⟩ := h
    rw [show _ = [] from h0, e]; simp [eqPs]
  | q :: qs, p :: ps, _, _, h, h0 => by
    obtain ⟨k, r, e, a1, a2⟩ := h
    obtain ⟨k', r', e', b1, b2⟩ := h0
    rw [e, e', eqPs, kRep_eq a1 b1, kRepL_eq a2 b2]
    by_cases z : k = k'
    · by_cases y : r = r'
      · simp [z, y]
      · simp [z, y]
    · simp [z]
theorem tRep_eq {q p : PV} {k k0 : List Key} (h : tRep q k) (h0 : tRep p k0) : eqP q p = decide (k = k0) := by
  cases q with
  | tup qs =>
    cases p with
    | tup ps => rw [eqP]; exact kRepL_eq h h0
    | _ => exact False.elim h0
  | _ => exact False.elim h
theorem kRep_rep {O : ObS} {W : Wd} {q : PV} {k : Key} (h : kRep q k) : Rep O W q (kV k) := by
  cases q with
  | int i => rw [show k = .inl i from h]; exact Rep.int_iff.mpr rfl
  | str s => rw [h.1]; exact Rep.str_iff.mpr ⟨rfl, h.2⟩
  | _ => exact False.elim h
section
variable {O : ObS} {W : Wd} {H : Hp}
theorem RepK.cons_iff {q p : PV} {kvs : List (PV × PV)} {ks : List (Key × V)} : RepK O W ((q, p) :: kvs) ks ↔ ∃ k v r, ks = (k, v) :: r ∧ kRep q k ∧ Rep O W p v ∧ RepK O W kvs r := by simp only [RepK]
theorem RepT.cons_iff {q p : PV} {kvs : List (PV × PV)} {ks : List (List Key × V)} : RepT O W ((q, p) :: kvs) ks ↔ ∃ k v r, ks = (k, v) :: r ∧ tRep q k ∧ Rep O W p v ∧ RepT O W kvs r := by simp only [RepT]
theorem RepK.nil_iff {ks : List (Key × V)} : RepK O W [] ks ↔ ks = [] := by simp only [RepK]
theorem RepT.nil_iff {ks : List (List Key × V)} : RepT O W [] ks ↔ ks = [] := by simp only [RepT]
/-- an answer, or none -/
def RepO (O : ObS) (W : Wd) (z : Option PV) (r : Option V) : Prop := match z, r with
  | some p, some v => Rep O W p v
  | none, none => True
  | _, _ => False
theorem RepK.find {p : PV} {k0 : Key} (h0 : kRep p k0) : ∀ {kvs : List (PV × PV)} {ks : List (Key × V)}, RepK O W kvs ks → RepO O W (dLk kvs p) (valV ks k0)
  | [], _, h => by rw [RepK.nil_iff.mp h]; exact True.intro
  | (q, z) :: kvs, _, h => by
    obtain ⟨k, v, r, e, a1, a2, a3⟩ := RepK.cons_iff.mp h
    subst e
    have ih := RepK.find h0 a3
    unfold dLk valV at ih ⊢
    rw [List.find?_cons, List.find?_cons]
    dsimp only
    rw [kRep_eq a1 h0]
    cases decide (k = k0)
    · exact ih
    · exact a2
theorem RepT.find {p : PV} {k0 : List Key} (h0 : tRep p k0) : ∀ {kvs : List (PV × PV)} {ks : List (List Key × V)}, RepT O W kvs ks → RepO O W (dLk kvs p) (valV ks k0)
  | [], _, h => by rw [RepT.nil_iff.mp h]; exact True.intro
  | (q, z) :: kvs, _, h => by
    obtain ⟨k, v, r, e, a1, a2, a3⟩ := RepT.cons_iff.mp h
    subst e
    have ih := RepT.find h0 a3
    unfold dLk valV at ih ⊢
    rw [List.find?_cons, List.find?_cons]
    dsimp only
    rw [tRep_eq a1 h0]
    cases decide (k = k0)
    · exact ih
    · exact a2
theorem RepK.any {p : PV} {k0 : Key} (h0 : kRep p k0) : ∀ {kvs : List (PV × PV)} {ks : List (Key × V)}, RepK O W kvs ks → (kvs.any fun kv => eqP kv.1 p) = (ks.any fun kv => decide (kv.1 = k0))
  | [], _, h => by rw [RepK.nil_iff.mp h]; rfl
  | (q, z) :: kvs, _, h => by
    obtain ⟨k, v, r, e, a1, a2, a3⟩ := RepK.cons_iff.mp h
    subst e
    rw [List.any_cons, List.any_cons, RepK.any h0 a3, kRep_eq a1 h0]
theorem RepT.any {p : PV} {k0 : List Key} (h0 : tRep p k0) : ∀ {kvs : List (PV × PV)} {ks : List (List Key × V)}, RepT O W kvs ks → (kvs.any fun kv => eqP kv.1 p) = (ks.any fun kv => decide (kv.1 = k0))
  | [], _, h => by rw [RepT.nil_iff.mp h]; rfl
  | (q, z) :: kvs, _, h => by
    obtain ⟨k, v, r, e, a1, a2, a3⟩ := RepT.cons_iff.mp h
    subst e
    rw [List.any_cons, List.any_cons, RepT.any h0 a3, tRep_eq a1 h0]
theorem RepK.mapP {p z : PV} {k0 : Key} {y : V} (h0 : kRep p k0) (hz : Rep O W z y) : ∀ {kvs : List (PV × PV)} {ks : List (Key × V)}, RepK O W kvs ks → RepK O W (kvs.map fun kv => if eqP kv.1 p = true then (kv.1, z) else kv) (ks.map fun kv => if kv.1 = k0 then (kv.1, y) else kv)
  | [], _, h => by rw [RepK.nil_iff.mp h]; exact RepK.nil_iff.mpr rfl
  | (q, z') :: kvs, _, h => by
    obtain ⟨k, v, r, e, a1, a2, a3⟩ := RepK.cons_iff.mp h
    subst e
    have ih := RepK.mapP h0 hz a3
    rw [List.map_cons, List.map_cons]
    dsimp only
    rw [kRep_eq a1 h0]
    by_cases c : k = k0
    · rw [if_pos (by simpa using c), if_pos c]
      exact RepK.cons_iff.mpr ⟨k, y, _, rfl, a1, hz, ih⟩
    · rw [if_neg (by simpa using c), if_neg c]
      exact RepK.cons_iff.mpr ⟨k, v, _, rfl, a1, a2, ih⟩
theorem RepT.mapP {p z : PV} {k0 : List Key} {y : V} (h0 : tRep p k0) (hz : Rep O W z y) : ∀ {kvs : List (PV × PV)} {ks : List (List Key × V)}, RepT O W kvs ks → RepT O W (kvs.map fun kv => if eqP kv.1 p = true then (kv.1, z) else kv) (ks.map fun kv => if kv.1 = k0 then (kv.1, y) else kv)
  | [], _, h => by rw [RepT.nil_iff.mp h]; exact RepT.nil_iff.mpr rfl
  | (q, z') :: kvs, _, h => by
    obtain ⟨k, v, r, e, a1, a2, a3⟩ := RepT.cons_iff.mp h
    subst e
    have ih := RepT.mapP h0 hz a3
    rw [List.map_cons, List.map_cons]
    dsimp only
    rw [tRep_eq a1 h0]
    by_cases c : k = k0
    · rw [if_pos (by simpa using c), if_pos c]
      exact RepT.cons_iff.mpr ⟨k, y, _, rfl, a1, hz, ih⟩
    · rw [if_neg (by simpa using c), if_neg c]
      exact RepT.cons_iff.mpr ⟨k, v, _, rfl, a1, a2, ih⟩
theorem RepK.snoc {p z : PV} {k0 : Key} {y : V} (h0 : kRep p k0) (hz : Rep O W z y) : ∀ {kvs : List (PV × PV)} {ks : List (Key × V)}, RepK O W kvs ks → RepK O W (kvs ++ [(p, z)]) (ks ++ [(k0, y)])
  | [], _, h => by rw [RepK.nil_iff.mp h]; exact RepK.cons_iff.mpr ⟨k0, y, [], rfl, h0, hz, RepK.nil_iff.mpr rfl⟩
  | (q, z') :: kvs, _, h => by
    obtain ⟨k, v, r, e, a1, a2, a3⟩ := RepK.cons_iff.mp h
    subst e
    exact RepK.cons_iff.mpr ⟨k, v, _, rfl, a1, a2, RepK.snoc h0 hz a3⟩
theorem RepT.snoc {p z : PV} {k0 : List Key} {y : V} (h0 : tRep p k0) (hz : Rep O W z y) : ∀ {kvs : List (PV × PV)} {ks : List (List Key × V)}, RepT O W kvs ks → RepT O W (kvs ++ [(p, z)]) (ks ++ [(k0, y)])
  | [], _, h => by rw [RepT.nil_iff.mp h]; exact RepT.cons_iff.mpr ⟨k0, y, [], rfl, h0, hz, RepT.nil_iff.mpr rfl⟩
  | (q, z') :: kvs, _, h => by
    obtain ⟨k, v, r, e, a1, a2, a3⟩ := RepT.cons_iff.mp h
    subst e
    exact RepT.cons_iff.mpr ⟨k, v, _, rfl, a1, a2, RepT.snoc h0 hz a3⟩
theorem RepK.put {p z : PV} {k0 : Key} {y : V} (h0 : kRep p k0) (hz : Rep O W z y) {kvs : List (PV × PV)} {ks : List (Key × V)} (h : RepK O W kvs ks) : RepK O W (dPut kvs p z) (putK ks k0 y) := by
  unfold dPut putK
  rw [RepK.any h0 h]
  split
  · exact RepK.mapP h0 hz h
  · exact RepK.snoc h0 hz h
theorem RepT.put {p z : PV} {k0 : List Key} {y : V} (h0 : tRep p k0) (hz : Rep O W z y) {kvs : List (PV × PV)} {ks : List (List Key × V)} (h : RepT O W kvs ks) : RepT O W (dPut kvs p z) (putK ks k0 y) := by
  unfold dPut putK
  rw [RepT.any h0 h]
  split
  · exact RepT.mapP h0 hz h
  · exact RepT.snoc h0 hz h
theorem RepK.len : ∀ {kvs : List (PV × PV)} {ks : List (Key × V)}, RepK O W kvs ks → ks.length = kvs.length
  | [], _, h => by rw [RepK.nil_iff.mp h]; rfl
  | (q, z') :: kvs, _, h => by
    obtain ⟨k, v, r, e, a1, a2, a3⟩ := RepK.cons_iff.mp h
    subst e
    rw [List.length_cons, List.length_cons, RepK.len a3]
theorem RepT.len : ∀ {kvs : List (PV × PV)} {ks : List (List Key × V)}, RepT O W kvs ks → ks.length = kvs.length
  | [], _, h => by rw [RepT.nil_iff.mp h]; rfl
  | (q, z') :: kvs, _, h => by
    obtain ⟨k, v, r, e, a1, a2, a3⟩ := RepT.cons_iff.mp h
    subst e
    rw [List.length_cons, List.length_cons, RepT.len a3]
theorem RepK.keys : ∀ {kvs : List (PV × PV)} {ks : List (Key × V)}, RepK O W kvs ks → RepL O W (kvs.map Prod.fst) (ks.map fun kv => kV kv.1)
  | [], _, h => by rw [RepK.nil_iff.mp h]; exact RepL.nil
  | (q, z') :: kvs, _, h => by
    obtain ⟨k, v, r, e, a1, a2, a3⟩ := RepK.cons_iff.mp h
    subst e
    exact RepL.cons (kRep_rep a1) (RepK.keys a3)
end
end JP

set_option Elab.async false
set_option linter.all false
set_option maxRecDepth 100000
namespace JP
open PySem L2
theorem RepO.isSome {O : ObS} {W : Wd} {z : Option PV} {r : Option V} (h : RepO O W z r) : r.isSome = z.isSome := by
  cases z <;> cases r <;> first | rfl | exact False.elim h
theorem RepO.getD {O : ObS} {W : Wd} {z : Option PV} {r : Option V} {p : PV} {v : V} (h : RepO O W z r) (hp : Rep O W p v) : Rep O W (z.getD p) (r.getD v) := by
  cases z <;> cases r <;> first | exact hp | exact h | exact False.elim h
section
variable {X : Cx} {Y : Cy} {e o a b : Expr} {f g : EX} {pos apos cpos pos' : Pos} {x : Str}
end
end JP

set_option Elab.async false
set_option linter.all false
set_option maxRecDepth 100000
namespace JP
open PySem L2
theorem ofS_inj {s t : String} (h : PySem.Str.ofString s = PySem.Str.ofString t) : s = t := by
  rw [PySem.Str.ofString_eq_toList, PySem.Str.ofString_eq_toList] at h
  have e := congrArg (fun x => x.cps.toList) h
  simp only [List.toList_toArray] at e
  have key : ∀ (a b : List Char), a.map Char.toNat = b.map Char.toNat → a = b := by
    intro a
    induction a with
    | nil => intro b e; cases b with
      | nil => rfl
      | cons c b => cases e
    | cons c a ih => intro b e; cases b with
      | nil => cases e
      | cons d b =>
        rw [List.map_cons, List.map_cons] at e
        injection e with e1 e2
        rw [ih b e2, show c = d from Char.ext (UInt32.toNat_inj.mp e1)]
  exact String.toList_inj.mp (key _ _ e)
section
variable {O : ObS} {W : Wd} {H H0 : Hp}
theorem FsR.len : ∀ {fs : List (String × FV)} {vs : List (Str × V)} {b : List Addr}, FsR O W H H0 fs vs b → vs.length = fs.length
  | [], _, _, h => by rw [h.1]; rfl
  | (n, .v p) :: r, _, _, h => by obtain ⟨v, t, e, _, h⟩ := h; rw [e, List.length_cons, List.length_cons, h.len]
  | (n, .d dt kvs) :: r, _, _, h => by obtain ⟨a, t, b', e, _, _, _, _, h⟩ := h; rw [e, List.length_cons, List.length_cons, h.len]
theorem FsR.names : ∀ {fs : List (String × FV)} {vs : List (Str × V)} {b : List Addr}, FsR O W H H0 fs vs b → vs.map (·.1) = (fs.map Prod.fst).map PySem.Str.ofString
  | [], _, _, h => by rw [h.1]; rfl
  | (n, .v p) :: r, _, _, h => by obtain ⟨v, t, e, _, h⟩ := h; rw [e]; simp only [List.map_cons, h.names]
  | (n, .d dt kvs) :: r, _, _, h => by obtain ⟨a, t, b', e, _, _, _, _, h⟩ := h; rw [e]; simp only [List.map_cons, h.names]
theorem ofS_beq (s t : String) : (PySem.Str.ofString s == PySem.Str.ofString t) = (s == t) := by
  by_cases h : s = t
  · subst h; simp
  · have : PySem.Str.ofString s ≠ PySem.Str.ofString t := fun z => h (ofS_inj z)
    rw [beq_eq_false_iff_ne.mpr h]
    exact beq_eq_false_iff_ne.mpr this
theorem FsR.look : ∀ {fs : List (String × FV)} {vs : List (Str × V)} {b : List Addr} (n : String), FsR O W H H0 fs vs b → (match fs.lookup n with
    | some (.v p) => ∃ v, vs.lookup (PySem.Str.ofString n) = some v ∧ Rep O W p v
    | some (.d t kvs) => ∃ a, a ∈ b ∧ vs.lookup (PySem.Str.ofString n) = some (.ref a) ∧ W a = none ∧ H0 a = none ∧ DctO O W H t kvs a
    | none => vs.lookup (PySem.Str.ofString n) = none)
  | [], _, _, n, h => by rw [h.1]; rfl
  | (m, .v p) :: r, _, _, n, h => by
    obtain ⟨v, t, e, h1, h⟩ := h
    subst e
    have ih := h.look n
    rw [List.lookup_cons, List.lookup_cons, ofS_beq]
    cases n == m
    · exact ih
    · exact ⟨v, rfl, h1⟩
  | (m, .d dt kvs) :: r, _, _, n, h => by
    obtain ⟨a, t, b', e, e2, h1, h2, h3, h⟩ := h
    subst e; subst e2
    have ih := h.look n
    rw [List.lookup_cons, List.lookup_cons, ofS_beq]
    cases n == m
    · dsimp only at ih ⊢
      revert ih
      cases r.lookup n with
      | none => exact id
      | some fv =>
        cases fv with
        | v p => exact id
        | d t2 k2 =>
          rintro ⟨a', i1, i2⟩
          exact ⟨a', List.mem_cons_of_mem _ i1, i2⟩
    · exact ⟨a, List.mem_cons_self, rfl, h2, h3, h1⟩
theorem FsR.snocv {n : String} {p : PV} {v : V} (hp : Rep O W p v) : ∀ {fs : List (String × FV)} {vs : List (Str × V)} {b : List Addr}, FsR O W H H0 fs vs b → FsR O W H H0 (fs ++ [(n, .v p)]) (vs ++ [(PySem.Str.ofString n, v)]) b
  | [], _, _, h => by rw [h.1, h.2]; exact ⟨v, [], rfl, hp, rfl, rfl⟩
  | (m, .v q) :: r, _, _, h => by
    obtain ⟨w, t, e, h1, h⟩ := h
    subst e
    exact ⟨w, _, rfl, h1, h.snocv hp⟩
  | (m, .d dt kvs) :: r, _, _, h => by
    obtain ⟨a, t, b', e, e2, h1, h2, h3, h⟩ := h
    subst e; subst e2
    exact ⟨a, _, b', rfl, rfl, h1, h2, h3, h.snocv hp⟩
theorem FsR.snocd {n : String} {t0 : Bool} {k0 : List (PV × PV)} {ad : Addr} (hp : DctO O W H t0 k0 ad) (hw : W ad = none) (hz : H0 ad = none) : ∀ {fs : List (String × FV)} {vs : List (Str × V)} {b : List Addr}, FsR O W H H0 fs vs b → FsR O W H H0 (fs ++ [(n, .d t0 k0)]) (vs ++ [(PySem.Str.ofString n, .ref ad)]) (b ++ [ad])
  | [], _, _, h => by rw [h.1, h.2]; exact ⟨ad, [], [], rfl, rfl, hp, hw, hz, rfl, rfl⟩
  | (m, .v q) :: r, _, _, h => by
    obtain ⟨w, t, e, h1, h⟩ := h
    subst e
    exact ⟨w, _, rfl, h1, h.snocd hp hw hz⟩
  | (m, .d dt kvs) :: r, _, _, h => by
    obtain ⟨a, t, b', e, e2, h1, h2, h3, h⟩ := h
    subst e; subst e2
    exact ⟨a, _, b' ++ [ad], rfl, rfl, h1, h2, h3, h.snocd hp hw hz⟩
/-- the dict of the field n becomes another one -/
theorem FsR.put {n : String} {t0 : Bool} {k0 q0 : List (PV × PV)} {o : HO} : ∀ {fs : List (String × FV)} {vs : List (Str × V)} {b : List Addr}, FsR O W H H0 fs vs b → b.Nodup → fs.lookup n = some (.d t0 k0) → ∀ a, vs.lookup (PySem.Str.ofString n) = some (.ref a) → DctO O W (upd H a o) t0 q0 a → FsR O W (upd H a o) H0 (fset n (.d t0 q0) fs) vs b
  | [], _, _, h, _, e, _, _, _ => by cases e
  | (m, .v q) :: r, _, _, h, nd, e, a, ev, hd => by
    obtain ⟨w, t, e1, h1, h⟩ := h
    subst e1
    unfold fset
    rw [List.lookup_cons] at e ev
    rw [ofS_beq] at ev
    cases c : n == m with
    | true => rw [c] at e; cases e
    | false =>
      rw [c] at e ev
      exact ⟨w, t, rfl, h1, h.put nd e a ev hd⟩
  | (m, .d dt kvs) :: r, _, _, h, nd, e, a, ev, hd => by
    obtain ⟨a', t, b', e1, e2, h1, h2, h3, h⟩ := h
    subst e1; subst e2
    unfold fset
    rw [List.lookup_cons] at e ev
    rw [ofS_beq] at ev
    cases c : n == m with
    | true =>
      rw [c] at e ev
      cases e
      obtain rfl : a' = a := by injection ev with z; injection z
      refine ⟨a', t, b', rfl, rfl, hd, h2, h3, h.frame (Wle.refl W) fun x hx => ⟨(h.free x hx).1, upd_ne fun z => ?_⟩⟩
      subst z
      exact (List.nodup_cons.mp nd).1 hx
    | false =>
      rw [c] at e ev
      replace e : r.lookup n = some (.d t0 k0) := e
      have hl := h.look n
      rw [e] at hl
      obtain ⟨a2, i1, i2, _⟩ := hl
      have ev' : t.lookup (PySem.Str.ofString n) = some (.ref a) := ev
      rw [ev'] at i2
      cases i2
      refine ⟨a', t, b', rfl, rfl, h1.mono (Wle.refl W) (upd_ne fun z => ?_), h2, h3, h.put (List.nodup_cons.mp nd).2 e a ev hd⟩
      subst z
      exact (List.nodup_cons.mp nd).1 i1
end
section
variable {Y : Cy} {W : Wd} {H : Hp} {σ : St} {env : Ev} {i : Nat}
/-- the object in the making in slot i: what is known of it, and its changes -/
theorem EnvR.obj (E : EnvR Y W H σ env) {k : Nat} {fs : List (String × FV)} (e : env[i]? = some (.n k fs)) : ∃ a dx vs b, σ[i]? = some (some (.ref a)) ∧ H a = some (.ins (Y.O.oc k) dx vs) ∧ FsR Y.O W H Y.H0 fs vs b ∧ vs.length = fs.length ∧
    (∀ n p v, Rep Y.O W p v → EnvR Y W (upd H a (.ins (Y.O.oc k) dx (vs ++ [(PySem.Str.ofString n, v)]))) σ (env.set i (.n k (fs ++ [(n, .v p)])))) ∧
    (∀ n t ad o, H ad = none → DctO Y.O W (upd H ad o) t [] ad → EnvR Y W (upd (upd H ad o) a (.ins (Y.O.oc k) dx (vs ++ [(PySem.Str.ofString n, .ref ad)]))) σ (env.set i (.n k (fs ++ [(n, .d t [])])))) ∧
    (∀ n t kvs ad qs o, fs.lookup n = some (.d t kvs) → vs.lookup (PySem.Str.ofString n) = some (.ref ad) → DctO Y.O W (upd H ad o) t qs ad → EnvR Y W (upd H ad o) σ (env.set i (.n k (fset n (.d t qs) fs)))) := by
  obtain ⟨b, k1, k2⟩ := E.alter i
  obtain ⟨x, e1, a, dx, vs, b', c1, c2, c3, c4, c5, c6, c7, c8, c9, c10⟩ := k1 _ e
  subst c1
  subst c3
  have nd := c2.1
  obtain ⟨na, nd⟩ := List.nodup_cons.mp nd
  obtain ⟨ndx, nd⟩ := List.nodup_cons.mp nd
  have hda : dx ≠ a := fun z => na (by rw [z]; exact List.mem_cons_self)
  refine ⟨a, dx, vs, b', e1, c4, c10, c10.len, fun n p v r => ?_, fun n t ad o hn hd => ?_, fun n t kvs ad qs o hl hv hd => ?_⟩
  · have := k2 W (upd H a (.ins (Y.O.oc k) dx (vs ++ [(PySem.Str.ofString n, v)]))) (.n k (fs ++ [(n, .v p)])) (some (.ref a)) (a :: dx :: b') (Wle.refl W) (.upd c6) (E.st.mut c6 c8)
      (fun b o hb q1 _ q2 => ⟨q2, by rw [upd_ne (fun z => hb (by rw [z]; exact List.mem_cons_self))]; exact q1⟩)
      ⟨a, dx, _, b', rfl, c2, rfl, upd_same, by rw [upd_ne hda]; exact c5, c6, c7, c8, c9, (c10.frame (Wle.refl W) fun x hx => ⟨(c10.free x hx).1, upd_ne fun z => na (by rw [← z]; exact List.mem_cons_of_mem _ hx)⟩).snocv r⟩ fun a' h => .inl h
    rwa [set_self e1] at this
  · have wn : W ad = none := E.ho.none hn
    have h0n : Y.H0 ad = none := E.st.back Y.h0 hn
    have naa : a ≠ ad := fun z => by rw [← z, c4] at hn; cases hn
    have ndd : dx ≠ ad := fun z => by rw [← z, c5] at hn; cases hn
    have nb : ad ∉ b' := fun z => by obtain ⟨_, _, o', q, _⟩ := c10.free ad z; rw [hn] at q; cases q
    have hd' : DctO Y.O W (upd (upd H ad o) a (.ins (Y.O.oc k) dx (vs ++ [(PySem.Str.ofString n, .ref ad)]))) t [] ad := hd.mono (Wle.refl W) (upd_ne fun z => naa z.symm)
    have fr : FsR Y.O W (upd (upd H ad o) a (.ins (Y.O.oc k) dx (vs ++ [(PySem.Str.ofString n, .ref ad)]))) Y.H0 fs vs b' := c10.frame (Wle.refl W) fun x hx => ⟨(c10.free x hx).1, by
      rw [upd_ne (fun z => na (by rw [← z]; exact List.mem_cons_of_mem _ hx)), upd_ne (fun z => nb (by rw [← z]; exact hx))]⟩
    have := k2 W (upd (upd H ad o) a (.ins (Y.O.oc k) dx (vs ++ [(PySem.Str.ofString n, .ref ad)]))) (.n k (fs ++ [(n, .d t [])])) (some (.ref a)) (a :: dx :: (b' ++ [ad])) (Wle.refl W) (.upd2 wn c6) ((E.st.mut wn h0n).mut c6 c8)
      (fun b o hb q1 _ q2 => ⟨q2, by rw [upd_ne (fun z => hb (by rw [z]; exact List.mem_cons_self)), upd_ne (fun z => by rw [z, hn] at q1; cases q1)]; exact q1⟩)
      ⟨a, dx, _, b' ++ [ad], rfl, ⟨?_, c2.2⟩, rfl, upd_same, by rw [upd_ne hda, upd_ne ndd]; exact c5, c6, c7, c8, c9, fr.snocd hd' wn h0n⟩ fun a' h => ?_
    · rwa [set_self e1] at this
    · refine List.nodup_cons.mpr ⟨fun z => ?_, List.nodup_cons.mpr ⟨fun z => ?_, List.nodup_append.mpr ⟨nd, List.nodup_cons.mpr ⟨by simp, List.nodup_nil⟩, fun x hx y hy z => ?_⟩⟩⟩
      · rcases List.mem_cons.mp z with z | z
        · exact hda z.symm
        · rcases List.mem_append.mp z with z | z
          · exact na (List.mem_cons_of_mem _ z)
          · exact naa (List.mem_singleton.mp z)
      · rcases List.mem_append.mp z with z | z
        · exact ndx z
        · exact ndd (List.mem_singleton.mp z)
      · rw [List.mem_singleton.mp hy] at z
        exact nb (by rw [← z]; exact hx)
    · rcases List.mem_cons.mp h with h | h
      · exact .inl (by rw [h]; exact List.mem_cons_self)
      · rcases List.mem_cons.mp h with h | h
        · exact .inl (by rw [h]; exact List.mem_cons_of_mem _ List.mem_cons_self)
        · rcases List.mem_append.mp h with h | h
          · exact .inl (List.mem_cons_of_mem _ (List.mem_cons_of_mem _ h))
          · exact .inr (by rw [List.mem_singleton.mp h]; exact hn)
  · have hlk := c10.look n
    rw [hl] at hlk
    obtain ⟨ad', i1, i2, i3, i4, i5⟩ := hlk
    rw [hv] at i2
    cases i2
    have naa : a ≠ ad := fun z => na (by rw [z]; exact List.mem_cons_of_mem _ i1)
    have ndd : dx ≠ ad := fun z => ndx (by rw [z]; exact i1)
    have := k2 W (upd H ad o) (.n k (fset n (.d t qs) fs)) (some (.ref a)) (a :: dx :: b') (Wle.refl W) (.upd i3) (E.st.mut i3 i4)
      (fun b o hb q1 _ q2 => ⟨q2, by rw [upd_ne (fun z => hb (by rw [z]; exact List.mem_cons_of_mem _ (List.mem_cons_of_mem _ i1)))]; exact q1⟩)
      ⟨a, dx, vs, b', rfl, c2, rfl, by rw [upd_ne naa]; exact c4, by rw [upd_ne ndd]; exact c5, c6, c7, c8, c9, c10.put nd hl ad hv hd⟩ fun a' h => .inl h
    rwa [set_self e1] at this
end
end JP

set_option Elab.async false
set_option linter.all false
set_option maxRecDepth 100000
namespace JP
open PySem L2
/-- a class of objects: its place, its fields -/
structure OC (O : ObS) (K : PySem.W.Frag) (kd : Nat) (C : Addr) (ns : List String) : Prop where
  oc : O.oc kd = C
  on : O.on kd = ns.map PySem.Str.ofString
  cls : Cls K C
  na : ∀ n ∈ ns, NoAttr K C (PySem.Str.ofString n)
  nd : ns.Nodup
section
variable {X : Cx} {Y : Cy} {C : Addr} {ns : List String} {e o a b v : Expr} {es : List Expr} {f g fo fv fk : EX} {fa : AX} {pos apos cpos pos' p1 p : Pos} {x fn : Str} {md : List Bool} {k : Nat}
theorem OC.cl {kd : Nat} (c : OC Y.O X.K kd C ns) : Cls X.K (Y.O.oc kd) := by rw [c.oc]; exact c.cls
theorem OC.no {kd : Nat} {n : String} (c : OC Y.O X.K kd C ns) (h : n ∈ ns) : NoAttr X.K (Y.O.oc kd) (PySem.Str.ofString n) := by rw [c.oc]; exact c.na n h
end
end JP

set_option Elab.async false
set_option linter.all false
set_option maxRecDepth 100000
namespace JP
open PySem L2
/-- what stands becomes known, field by field -/
theorem FsR.known {bb : Bool} {O : ObS} {H H0 : Hp} {W0 : Wd} : ∀ {fs : List (String × FV)} {vs : List (Str × V)} {b : List Addr} {W : Wd}, FsR O W H H0 fs vs b → b.Nodup → Stz bb W0 H0 W H →
    ∃ W', Wle W W' ∧ Stz bb W0 H0 W' H ∧ (∀ a, a ∉ b → W' a = W a) ∧ RepL O W' (fs.map fun f => fvP f.2) (vs.map (·.2))
  | [], _, _, W, h, _, st => ⟨W, Wle.refl W, st, fun _ _ => rfl, by rw [h.1]; exact RepL.nil⟩
  | (n, .v p) :: r, _, _, W, h, nd, st => by
    obtain ⟨v, t, e, h1, h⟩ := h
    subst e
    obtain ⟨W', l, s, k, rl⟩ := h.known nd st
    exact ⟨W', l, s, k, RepL.cons (h1.mono l) rl⟩
  | (n, .d dt kvs) :: r, _, _, W, h, nd, st => by
    obtain ⟨a, t, b', e, e2, h1, h2, h3, h⟩ := h
    subst e; subst e2
    obtain ⟨n1, n2⟩ := List.nodup_cons.mp nd
    obtain ⟨o, q1, dk, q2⟩ := h1.known h2
    have l0 : Wle W (putP W a (TolF o)) := Wle.putP h2
    have fr : FsR O (putP W a (TolF o)) H H0 r t b' := h.frame l0 fun x hx => ⟨by rw [putP_ne (fun z => n1 (by rw [← z]; exact hx))]; exact (h.free x hx).1, rfl⟩
    obtain ⟨W', l, s, k, rl⟩ := fr.known n2 (st.knownP (Gd.tol dk) (Nl.tol dk) (.inl rfl) h2 h3 q1)
    refine ⟨W', l0.trans l, s, fun x hx => ?_, RepL.cons (q2.mono l) rl⟩
    rw [k x (fun z => hx (List.mem_cons_of_mem _ z)), putP_ne (fun z => hx (by rw [z]; exact List.mem_cons_self))]
/-- the promise of an __init__ -/
def spI (O : ObS) (kd : Nat) (md : List Bool) (m : List PV → R (List PV)) : Sp := fun vs H Q E => ∃ W H1 a dx ps xs, vs = .ref a :: xs ∧ H1 a = none ∧ H1 dx = none ∧ dx ≠ a ∧ H = upd (upd H1 dx (.own a)) a (.ins (O.oc kd) dx []) ∧ Hold W H1 ∧ ArgR O W H1 md ps xs ∧
  match m ps with
  | .ok fs => ∀ W' H', Stp W H1 W' H' → Rep O W' (.ob kd fs) (.ref a) → Q .non H'
  | .ex e => ∀ W' H' cls d, Stp W H1 W' H' → ExR O W' cls d e → E cls d H'
  | .bad => False
section
variable {P : Program} {w : World} {K : PySem.W.Frag} {mg : Str → Option Value} {base : Heap} {O : ObS} {x qual : Str} {st : Stmt} {f : Addr} {fd : FuncData} {N ps : List Str} {k : Nat}
end
section
variable {X : Cx} {Y : Cy} {e : Expr} {es : List Expr} {fa : AX} {pos p : Pos} {md : List Bool} {x : Str} {k : Nat} {C f : Addr} {fd : FuncData} {ps : List Str} {sp : Sp} {CX : CXT} {E : St → XK} {t : TA}
def tMakeS (C : Addr) (sp : Sp) (E : St → XK) (t : TA) : TE := fun σ H Q => t σ H fun vs H1 => ∀ x dx, H1 x = none → H1 dx = none → dx ≠ x →
  sp (.ref x :: vs) (upd (upd H1 dx (.own x)) x (.ins C dx [])) (fun v H2 => v = .non ∧ Q (.ref x) H2) (E σ)
/-- the class of that name makes objects of the kind kd -/
def GMk (P : Program) (w : World) (K : PySem.W.Frag) (mg : Str → Option Value) (base : Heap) (x : Str) (C : Addr) (k : Nat) (sp : Sp) : Prop :=
  mg x = some (.ref C) ∧ ∃ (f : Addr) (fd : FuncData) (ps : List Str), Mk K C f ∧ FnOk P w K mg base (L2.CX P w) k f fd ps sp ∧ Binds K fd ps []
end
end JP

set_option Elab.async false
set_option linter.all false
set_option maxRecDepth 100000
namespace JP
open PySem L2
/-- a target's store within a comprehension -/
def PGC (X : Cx) (Y : Cy) (tg : Expr) (g : TG) (b : BX) (is : List Nat) : Prop := PG X tg g ∧ ∀ (W : Wd) (H : Hp) (σ : St) (env e : Ev) (p : PV) (x : V) (Q : St → Hp → Prop), EnvR Y W H σ env → Rep Y.O W p x → b p env = .ok e → (∀ σ', EnvR Y W H σ' e → wipe σ' is = wipe σ is → Q σ' H) → g x σ H Q
def Cy.calm (Y : Cy) : Cy := { Y with Wx := fun _ _ _ _ => False }
section
variable {X : Cx} {Y : Cy} {x y : Str} {pos p1 p2 : Pos} {kk i j : Nat}
end
theorem compF_step {b : BX} {t f : EX} {ps : List PV} {i : Nat} {p : PV} (h : ps[i]? = some p) (env : Ev) : compF b t f (ps.drop i) env = match b p env with
    | .ok e => (match t e with
      | .ok (.bl true) => (match f e with | .ok y => (match compF b t f (ps.drop (i + 1)) env with | .ok r => .ok (y :: r) | _ => .bad) | _ => .bad)
      | .ok (.bl false) => compF b t f (ps.drop (i + 1)) env
      | _ => .bad)
    | _ => .bad := by
  have hi := (List.getElem?_eq_some_iff.mp h).1
  have e : ps.drop i = p :: ps.drop (i + 1) := by
    rw [List.drop_eq_getElem_cons hi]
    congr 1
    have := List.getElem?_eq_getElem hi
    rw [h] at this
    exact (Option.some.inj this).symm
  rw [e]
  rfl
theorem compF_ex {b : BX} {t f : EX} {env : Ev} {e : PX} : ∀ {ps : List PV}, compF b t f ps env ≠ .ex e
  | [], h => by cases h
  | p :: ps, h => by
    unfold compF at h
    split at h
    · split at h
      · split at h
        · split at h
          · cases h
          · cases h
        · cases h
      · exact compF_ex h
      · cases h
    · cases h
theorem EnvR.wipe {Y : Cy} {W : Wd} {H : Hp} {σ : St} {env : Ev} (E : EnvR Y W H σ env) : ∀ is : List Nat, EnvR Y W H (L2.wipe σ is) (wipeE env is)
  | [] => E
  | i :: is => (E.wipe is).setu
/-- the test of a comprehension without one -/
theorem gts_nil {X : Cx} {Y : Cy} : PTs X [] (tT Y (eC (.bl true))) := ⟨fun pins s σ H Q I ⟨W, env, E, r⟩ => pts_nil.run pins s σ H Q I (let ⟨b, e, q⟩ := r.now E.ho; by cases e; exact q)⟩
section
variable {X : Cx} {Y : Cy} {elt tg iter : Expr} {ifs : List Expr} {scope : Scope} {own : List (Str × Nat)} {pos : Pos} {g : TG} {b : BX} {it : AX} {t f : EX} {is : List Nat}
theorem t_comp (hb : ∀ (W : Wd) (H : Hp) (σ : St) (env e : Ev) (p : PV) (x : V) (Q : St → Hp → Prop), EnvR Y.calm W H σ env → Rep Y.O W p x → b p env = .ok e → (∀ σ', EnvR Y.calm W H σ' e → wipe σ' is = wipe σ is → Q σ' H) → g x σ H Q) (hw : ∀ σ : St, wipe (wipe σ is) is = wipe σ is) :
    ∀ σ H Q, tF Y (aComp is b it t f) σ H Q → tLc (tIc Y it) g (tT Y.calm t) (tP Y.calm f) is σ H Q := by
  intro σ H Q ⟨W, env, E, r⟩
  refine ⟨W, env, E, (RP.bind E.ho r).mono fun W1 H1 ps s1 k1 J w => ?_⟩
  intro D hD
  have E1 : EnvR Y.calm W1 H1 (wipe σ is) (wipeE env is) := ((E.step s1).wish _).wipe is
  unfold compK at k1
  by_cases hl : ps.length ≤ 1000000
  · rw [if_pos hl] at k1
    cases ec : compF b t f ps (wipeE env is) with
    | ex e => exact (compF_ex ec).elim
    | bad => rw [ec] at k1; exact False.elim k1
    | ok zs =>
      rw [ec] at k1
      refine ⟨fun i m H => m = ps.length - i ∧ i ≤ ps.length ∧ ∃ W2 acc vacc rest, Stp W1 H1 W2 H ∧ H D = some (.lst vacc) ∧ W2 D = none ∧ RepL Y.O W2 acc vacc ∧ acc.length ≤ i ∧ compF b t f (ps.drop i) (wipeE env is) = .ok rest ∧ acc ++ rest = zs, ⟨ps.length, by simp, Nat.zero_le _, W1, [], [], zs, Stp.new0 E1.ho hD, upd_same, E1.ho.none hD, RepL.nil, by simp, by simpa using ec, by simp⟩, ?_⟩
      rintro i m H2 ⟨rfl, hi, W2, acc, vacc, rest, st, hd, hwd, ra, hla, ecd, hz⟩
      by_cases hlt : i < ps.length
      · refine .inr ⟨w.go i W2 H2 hlt st, fun H' => ∃ W2 acc vacc rest, Stp W1 H1 W2 H' ∧ H' D = some (.lst vacc) ∧ W2 D = none ∧ RepL Y.O W2 acc vacc ∧ acc.length ≤ i + 1 ∧ compF b t f (ps.drop (i + 1)) (wipeE env is) = .ok rest ∧ acc ++ rest = zs, fun H' z => ⟨ps.length - (i + 1), by omega, rfl, hlt, z⟩, fun x H' y => ?_⟩
        obtain ⟨W3, p, t3, hp, rp⟩ := w.yld i W2 H2 x H' hlt st y
        rw [compF_step hp] at ecd
        have st3 := st.trans E1.ho t3
        have d3 := t3.own hd hwd
        have ra3 := ra.mono t3.le
        cases hbe : b p (wipeE env is) with
        | ok e =>
          rw [hbe] at ecd
          dsimp only at ecd
          refine hb W3 H' (wipe σ is) (wipeE env is) e p x _ (E1.step st3) rp hbe fun σ' E' hwi => ⟨by rw [hwi, hw], W3, e, E', ?_⟩
          cases hte : t e with
          | ok q =>
            rw [hte] at ecd
            cases q with
            | bl bb =>
              cases bb with
              | true =>
                dsimp only at ecd
                intro W4 H4 t4
                refine ⟨true, rfl, ?_⟩
                dsimp only
                rw [if_pos rfl]
                have st4 := st3.trans E1.ho t4
                refine ⟨W4, e, E'.step t4, ?_⟩
                cases hfe : f e with
                | ok yv =>
                  rw [hfe] at ecd
                  dsimp only at ecd
                  cases hre : compF b t f (ps.drop (i + 1)) (wipeE env is) with
                  | ok r2 =>
                    rw [hre] at ecd
                    cases ecd
                    intro W5 H5 t5 v rv
                    have st5 := st4.trans E1.ho t5
                    have d4 := t4.own d3.1 d3.2
                    have d5 := t5.own d4.1 d4.2
                    refine ⟨vacc, d5.1, by rw [← ra.len]; exact size_lt (by omega), W5, acc ++ [yv], vacc ++ [v], r2, ?_, upd_same, d5.2, ((ra3.mono t4.le).mono t5.le).app (RepL.cons rv RepL.nil), by simp; omega, rfl, by simpa using hz⟩
                    exact st5.mut d5.2 hD
                  | ex _ => rw [hre] at ecd; cases ecd
                  | bad => rw [hre] at ecd; cases ecd
                | ex _ => rw [hfe] at ecd; cases ecd
                | bad => rw [hfe] at ecd; cases ecd
              | false =>
                dsimp only at ecd
                intro W4 H4 t4
                refine ⟨false, rfl, ?_⟩
                dsimp only
                rw [if_neg Bool.false_ne_true]
                have d4 := t4.own d3.1 d3.2
                exact ⟨W4, acc, vacc, rest, st3.trans E1.ho t4, d4.1, d4.2, ra3.mono t4.le, by omega, ecd, hz⟩
            | _ => cases ecd
          | ex _ => rw [hte] at ecd; cases ecd
          | bad => rw [hte] at ecd; cases ecd
        | ex _ => rw [hbe] at ecd; cases ecd
        | bad => rw [hbe] at ecd; cases ecd
      · have e : i = ps.length := by omega
        subst e
        refine .inl ⟨w.stop W2 H2 st, ?_⟩
        rw [List.drop_length] at ecd
        cases ecd
        rw [List.append_nil] at hz
        subst hz
        exact k1 W2 H2 st D vacc (s1.back E.ho hD) hwd hd ra
  · rw [if_neg hl] at k1; exact False.elim k1
theorem wipe_mem {σ : St} : ∀ {is : List Nat} {j : Nat}, j ∈ is → (wipe σ is).set j none = wipe σ is
  | v :: vs, j, h => by
    unfold wipe
    by_cases e : v = j
    · rw [e, List.set_set]
    · rw [List.set_comm _ _ e, wipe_mem (by
        rcases List.mem_cons.mp h with z | z
        · exact (e z.symm).elim
        · exact z)]
theorem wipe_sub {σ : St} {is : List Nat} : ∀ {js : List Nat}, (∀ j ∈ js, j ∈ is) → wipe (wipe σ is) js = wipe σ is
  | [], _ => rfl
  | j :: js, h => by
    rw [show wipe (wipe σ is) (j :: js) = (wipe (wipe σ is) js).set j none from rfl, wipe_sub fun k hk => h k (List.mem_cons_of_mem _ hk)]
    exact wipe_mem (h j List.mem_cons_self)
/-- what a target's store does, by plain data -/
def BG (Y : Cy) (g : TG) (b : BX) (is : List Nat) : Prop := ∀ (W : Wd) (H : Hp) (σ : St) (env e : Ev) (p : PV) (x : V) (Q : St → Hp → Prop), EnvR Y.calm W H σ env → Rep Y.O W p x → b p env = .ok e → (∀ σ', EnvR Y.calm W H σ' e → wipe σ' is = wipe σ is → Q σ' H) → g x σ H Q
theorem bg_name (i : Nat) : BG Y (gName i) (bName i) [i] := by
  intro W H σ env e p v Q E r hb k
  cases hb
  exact k _ (E.setv r) (by simp [wipe])
/-- the context of a comprehension's block -/
abbrev CxC (X : Cx) (scope : Scope) (s : Shared) (H : Hp) (C : Addr) (cl : List (Str × Addr)) (fp : List Addr) : Cx := X.blk s H scope (compEnvC scope cl C X.env) fp
theorem takes0 {X : Cx} {Y : Cy} : Takes X Y.calm.Wx := fun u s' ⟨a, B, sI, pins, σ, H, cls, d, e, I, nb, up, sky, na, os, ag, w⟩ => False.elim w
/-- [..] as a new list -/
theorem gf_comp (own : List (Str × Nat)) (hc : X.calm = true) (hN : X.N.Nodup) (hi : PI X tg iter (tIc Y it)) (ok : blkC X.N X.env.scope scope own = true) (hb : BG Y g b (own.map (·.2)))
    (hg : ∀ s H C cl fp, PG (CxC X scope s H C cl fp) tg g) (ht : ∀ s H C cl fp, PTs (CxC X scope s H C cl fp) ifs (tT Y.calm t)) (he : ∀ s H C cl fp, PE (CxC X scope s H C cl fp) elt (tP Y.calm f)) (hs : ∀ x, foldedSetIterable iter X.env x = pure x := by intro _; rfl) :
    PE X (.ListComp elt [⟨tg, iter, ifs, 0⟩] scope pos) (tF Y (aComp (own.map (·.2)) b it t f)) :=
  pe_imp (pe_lc hc hN hi (blkOk_by ok) hg ht he hs) (t_comp hb fun σ => wipe_sub fun _ h => h)
/-- name = [..] on one line, the name a local: a list of one's own -/
theorem gs_ownC (own : List (Str × Nat)) (i : Nat) {y : Str} {py spos : Pos} (hc : X.calm = true) (hN : X.N.Nodup) (hsw : swapsWith (.ListComp elt [⟨tg, iter, ifs, 0⟩] scope pos) (some (.Name y py)) spos.line X.env = pure true) (hi : PI X tg iter (tIc Y it)) (ok : blkC X.N X.env.scope scope own = true) (hb : BG Y g b (own.map (·.2)))
    (hg : ∀ s H C cl fp, PG (CxC X scope s H C cl fp) tg g) (ht : ∀ s H C cl fp, PTs (CxC X scope s H C cl fp) ifs (tT Y.calm t)) (he : ∀ s H C cl fp, PE (CxC X scope s H C cl fp) elt (tP Y.calm f)) (hy : X.N[i]? = some y := by rfl) (hyl : X.env.scope.names.lookup y = some .local := by rfl) (hs : ∀ x, foldedSetIterable iter X.env x = pure x := by intro _; rfl) :
    PS X (.Assign [.Name y py] (.ListComp elt [⟨tg, iter, ifs, 0⟩] scope pos) spos) (tS Y (sOwn i (aComp (own.map (·.2)) b it t f))) := by
  refine ps_imp (ps_setLc hc hN hy hyl hsw hi (blkOk_by ok) hg ht he hs) fun D σ H ⟨W, env, E, q⟩ => t_comp hb (fun σ => wipe_sub fun _ h => h) σ H _ ⟨W, env, E, ?_⟩
  have q : OP Y D W (sOwn i (aComp (own.map (·.2)) b it t f) env) := q
  exact OP.rp E q fun p _ q W' H' t a vs n nw ha rl => q W' H' _ t.le (E.seto t n ha nw rl)
end
end JP

set_option Elab.async false
set_option linter.all false
set_option maxRecDepth 100000
namespace JP
open PySem L2
theorem any_toDs {d : PV} (hd : datP d = true) : ∀ qs : List PV, datPs qs = true → ((toDs qs).any fun z => PyData.eqv z (toD d)) = (qs.any fun z => eqP z d)
  | [], _ => rfl
  | q :: qs, h => by
    simp only [datPs, Bool.and_eq_true] at h
    simp only [toDs, List.any_cons, eqv_toD q d h.1 hd, any_toDs hd qs h.2]
theorem r2s_inL {O : ObS} : R2S O (rInD O.K) pInL := by
  intro W H x y p q z Q h0 rx ry hz k
  cases q with
  | lst qs =>
    simp only [pInL] at hz
    by_cases c : (shp p && shp (.lst qs)) = true
    · rw [if_pos c] at hz
      cases hz
      simp only [Bool.and_eq_true] at c
      obtain ⟨a1, a2⟩ := rx.dp h0 c.1
      obtain ⟨b1, b2⟩ := ry.dp h0 c.2
      have d1 : datP p = true := by have := c.1; unfold shp at this; simp only [Bool.and_eq_true] at this; exact this.1
      have d2 : datP (.lst qs) = true := by have := c.2; unfold shp at this; simp only [Bool.and_eq_true] at this; exact this.1
      simp only [toD] at b1 b2
      exact ⟨toD p, toDs qs, a1, b1, a2, b2, k W H _ (Stp.refl h0) (Rep.bl_iff.mpr (by rw [any_toDs d1 qs (by simpa only [datP] using d2)]))⟩
    · rw [if_neg c] at hz; cases hz
  | _ => cases hz
section
variable {X : Cx} {Y : Cy} {a b e tg : Expr} {f g : EX} {pos p tpos : Pos} {elts : List Expr} {kk : Nat} {x y : Str} {p1 p2 : Pos}
theorem gt_inL {k : Nat} (hK : Y.O.K = X.K) (hr : Room k X.A) (ha : PE X a (tB Y f)) (hb : PE X b (tB Y g)) (hm : behindInMarks .In b = false := by rfl) : PT X (.Compare a [.In] [b] pos) (tT Y (eOp pInL f g)) := gt_cmp (op_inD (by have := hr.un; omega)) (by rw [← hK]; exact r2s_inL) ha hb hm
theorem pgn (i : Nat) (hN : X.N.Nodup) (hi : X.N[i]? = some x := by rfl) (hx : Loc X.env.scope x := by first | exact Or.inl rfl | exact Or.inr rfl) (hf : X.fn x = true ∨ X.env.scope.names.lookup x = some .local := by first | exact .inl rfl | exact .inr rfl | assumption) : PG X (.Name x pos) (gName i) := pg_name hN hi hx hf
end
end JP

set_option Elab.async false
set_option linter.all false
set_option maxRecDepth 100000
namespace JP
open PySem L2
theorem RepL.set {O : ObS} {W : Wd} {p : PV} {v : V} (h : Rep O W p v) : ∀ {ps : List PV} {vs : List V} (j : Nat), RepL O W ps vs → RepL O W (ps.set j p) (vs.set j v)
  | [], vs, j, r => by rw [r.of_nil]; exact RepL.nil
  | q :: ps, [], _, r => by simp only [RepL] at r; obtain ⟨_, _, e, _⟩ := r; cases e
  | q :: ps, w :: vs, 0, r => RepL.cons h (RepL.cons_iff.mp r).2
  | q :: ps, w :: vs, j + 1, r => RepL.cons (RepL.cons_iff.mp r).1 (RepL.set h j (RepL.cons_iff.mp r).2)
section
variable {X : Cx} {Y : Cy} {e k v : Expr} {f fk fv : EX} {pos pos' p1 apos cpos : Pos} {x : Str}
end
end JP

set_option Elab.async false
set_option linter.all false
set_option maxRecDepth 100000
namespace JP
open PySem L2
section
variable {O : ObS} {W : Wd} {H : Hp}
theorem RepL.ints : ∀ {ps : List PV} {vs : List V} {ns : List Int}, RepL O W ps vs → asI ps = some ns → vs = ns.map V.int
  | [], _, _, r, e => by cases e; rw [r.of_nil]; rfl
  | p :: ps, [], _, r, _ => by simp only [RepL] at r; obtain ⟨_, _, e, _⟩ := r; cases e
  | p :: ps, v :: vs, ns, r, e => by
    obtain ⟨r1, r2⟩ := RepL.cons_iff.mp r
    cases p with
    | int i =>
      simp only [asI, Option.map_eq_some_iff] at e
      obtain ⟨ms, e1, e2⟩ := e
      subst e2
      rw [Rep.int_iff.mp r1, RepL.ints r2 e1]
      rfl
    | _ => cases e
theorem RepB.its {p : PV} {x : V} {xs : List PV} (h0 : Hold W H) (r : RepB O W H p x) (e : itsP p = some xs) : ∃ a vs, x = .ref a ∧ SqL O.K H a vs ∧ RepL O W xs vs := by
  cases p with
  | lst l =>
    cases e
    obtain ⟨a, vs, e1, e2, e3⟩ := r.lst h0
    exact ⟨a, vs, e1, SqL.of e2, e3⟩
  | scr l =>
    cases e
    obtain ⟨a, vs, e1, e2, e3⟩ := r.scr
    exact ⟨a, vs, e1, e2.sq h0, e3⟩
  | _ => cases e
end
section
variable {X : Cx} {Y : Cy} {e : Expr} {f : EX} {pos p : Pos}
end
end JP

set_option Elab.async false
set_option linter.all false
set_option maxRecDepth 100000
namespace JP
open PySem L2
section
variable {X : Cx} {Y : Cy} {o e a b : Expr} {f g k : EX} {pos apos p : Pos}
theorem isStr_of {p : PV} (h : isStr p = true) : ∃ s, p = .str s := by cases p <;> first | exact ⟨_, rfl⟩ | cases h
/-- a method of a text with one argument -/
def M1S (O : ObS) (r : V → List V → Hp → VK → Prop) (h : PV → PV → Option PV) : Prop := ∀ (W : Wd) (H : Hp) (s : List Nat) (y : V) (q z : PV) (Q : VK), Hold W H → okS s → RepB O W H q y → h (.str s) q = some z → (∀ W' H' v, Stp W H W' H' → Rep O W' z v → Q v H') → r (.str (tx s)) [y] H Q
theorem t_m1 {r : V → List V → Hp → VK → Prop} {h : PV → PV → Option PV} (hr : M1S Y.O r h) : ∀ σ H Q, tP Y (eM1 h f g) σ H Q → tM1 r (tB Y f) (tB Y g) σ H Q := by
  intro σ H Q ⟨W, env, E, q⟩
  refine ⟨W, env, E, (RP.bind E.ho q).mono fun W1 H1 p s1 k1 x rx => ?_⟩
  have E1 := E.step s1
  by_cases c : isStr p = true
  · rw [if_pos c] at k1
    obtain ⟨s, rfl⟩ := isStr_of c
    obtain ⟨e1, o1⟩ := rx.str
    subst e1
    refine ⟨⟨_, rfl⟩, W1, env, E1, (RP.bind E1.ho k1).mono fun W2 H2 q s2 k2 y ry => ?_⟩
    obtain ⟨z, hz, kz⟩ := RP.ofO k2
    exact hr W2 H2 s y q z Q (E1.step s2).ho o1 ry hz fun W' H' v t rv => kz W' H' t v rv
  · rw [if_neg c] at k1
    exact False.elim k1
def M1F (O : ObS) (r : V → List V → Hp → VK → Prop) (h : PV → PV → Option (List PV)) : Prop := ∀ (W : Wd) (H : Hp) (s : List Nat) (y : V) (q : PV) (z : List PV) (Q : VK), Hold W H → okS s → RepB O W H q y → h (.str s) q = some z → (∀ W' H' a vs, Stp W H W' H' → H a = none → W' a = none → H' a = some (.lst vs) → RepL O W' z vs → Q (.ref a) H') → r (.str (tx s)) [y] H Q
theorem t_m1F {r : V → List V → Hp → VK → Prop} {h : PV → PV → Option (List PV)} (hr : M1F Y.O r h) : ∀ σ H Q, tF Y (lM1 h f g) σ H Q → tM1 r (tB Y f) (tB Y g) σ H Q := by
  intro σ H Q ⟨W, env, E, q⟩
  refine ⟨W, env, E, (RP.bind E.ho q).mono fun W1 H1 p s1 k1 x rx => ?_⟩
  have E1 := E.step s1
  by_cases c : isStr p = true
  · rw [if_pos c] at k1
    obtain ⟨s, rfl⟩ := isStr_of c
    obtain ⟨e1, o1⟩ := rx.str
    subst e1
    refine ⟨⟨_, rfl⟩, W1, env, E1, (RP.bind E1.ho k1).mono fun W2 H2 q s2 k2 y ry => ?_⟩
    obtain ⟨z, hz, kz⟩ := RP.ofO k2
    exact hr W2 H2 s y q z Q (E1.step s2).ho o1 ry hz fun W' H' a vs t n w h' rl => kz W' H' t a vs (s1.back E.ho (s2.back E1.ho n)) w h' rl
  · rw [if_neg c] at k1
    exact False.elim k1
theorem RepL.strs {O : ObS} {W : Wd} : ∀ {ps : List PV} {vs : List V} {ns : List (List Nat)}, RepL O W ps vs → asS ps = some ns → vs = (ns.map tx).map V.str ∧ ∀ s ∈ ns, okS s
  | [], _, _, r, e => by cases e; rw [r.of_nil]; exact ⟨rfl, by simp⟩
  | p :: ps, [], _, r, _ => by simp only [RepL] at r; obtain ⟨_, _, e, _⟩ := r; cases e
  | p :: ps, v :: vs, ns, r, e => by
    obtain ⟨r1, r2⟩ := RepL.cons_iff.mp r
    cases p with
    | str i =>
      simp only [asS, Option.map_eq_some_iff] at e
      obtain ⟨ms, e1, e2⟩ := e
      subst e2
      obtain ⟨h1, h2⟩ := Rep.str_iff.mp r1
      obtain ⟨h3, h4⟩ := RepL.strs r2 e1
      rw [h1, h3]
      exact ⟨rfl, fun s hs => (List.mem_cons.mp hs).elim (fun z => z ▸ h2) (h4 s)⟩
    | _ => cases e
theorem joinS_eq (sep : List Nat) : ∀ ys : List (List Nat), joinS sep ys = TL.joinL sep ys
  | [] => rfl
  | [p] => rfl
  | p :: q :: r => by simp only [joinS, TL.joinL, joinS_eq sep (q :: r)]
theorem joinS_ok {sep : List Nat} (hs : okS sep) : ∀ {ys : List (List Nat)}, (∀ s ∈ ys, okS s) → okS (joinS sep ys)
  | [], _ => fun c h => by cases h
  | [p], h => h p (by simp)
  | p :: q :: r, h => by
    unfold joinS
    exact (h p (by simp)).app (hs.app (joinS_ok hs fun s z => h s (List.mem_cons_of_mem _ z)))
theorem ge_join (hK : Y.O.K = X.K) (ha : PE X o (tB Y f)) (hb : PE X e (tB Y g)) (hs : starEach [e] X.env = [(false, eval e X.env)] := by rfl) (hbase : attributeBase o "join" X.env (eval o X.env) = eval o X.env := by rfl) (hline : (apos.endLine == pos.line) = true := by rfl) :
    PE X (.Call (.Attribute o "join" apos) [e] [] pos) (tP Y (eM1 pJoin f g)) := by
  refine pe_imp (pe_join ha hb hs hbase hline) (t_m1 ?_)
  intro W H s y q z Q h0 os ry hz k
  simp only [pJoin, Option.bind_eq_some_iff] at hz
  obtain ⟨xs, h1, ys, h2, h3⟩ := hz
  by_cases c : lenS ys + ys.length * s.length ≤ 1000000
  · rw [if_pos c] at h3
    cases h3
    obtain ⟨a, vs, g1, g2, g3⟩ := ry.its h0 h1
    obtain ⟨g4, g5⟩ := g3.strs h2
    subst g1
    rw [g4] at g2
    refine ⟨tx s, a, ys.map tx, rfl, rfl, .inl (by rw [← hK]; exact g2), ?_, k W H _ (Stp.refl h0) (Rep.str_iff.mpr ⟨?_, joinS_ok os g5⟩)⟩
    · have e1 : (ys.map tx).map (·.length) = ys.map List.length := by rw [List.map_map]; exact List.map_congr_left fun x _ => tx_len x
      have e2 : (ys.map tx).length = ys.length := by simp
      rw [e1, e2, tx_len]
      unfold lenS at c
      omega
    · rw [joinS_eq]
      have := SX.join_S s ys
      exact congrArg V.str this
  · rw [if_neg c] at h3; cases h3
theorem splitS_eq (c : Nat) : ∀ (l acc : List Nat), splitS c acc l = TL.spl [c] 0 acc l
  | [], acc => by simp [splitS, TL.spl]
  | d :: r, acc => by
    have hp : TL.pre [c] (d :: r) = (d == c) := by simp [TL.pre]
    unfold splitS TL.spl
    rw [hp]
    by_cases h : d = c
    · subst h; simp [splitS_eq d r []]
    · have h2 : (d == c) = false := by simpa using h
      simp [h, h2, splitS_eq c r (acc ++ [d])]
theorem splitS_ok (c : Nat) : ∀ {l acc : List Nat}, okS l → okS acc → ∀ s ∈ splitS c acc l, okS s
  | [], acc, _, h, s, hs => by simp [splitS] at hs; rw [hs]; exact h
  | d :: r, acc, hl, h, s, hs => by
    have hr : okS r := fun x hx => hl x (List.mem_cons_of_mem _ hx)
    unfold splitS at hs
    by_cases e : d = c
    · rw [if_pos e] at hs
      rcases List.mem_cons.mp hs with rfl | hs
      · exact h
      · exact splitS_ok c hr (fun x hx => by cases hx) s hs
    · rw [if_neg e] at hs
      exact splitS_ok c hr (h.app fun x hx => by rw [List.mem_singleton.mp hx]; exact hl d List.mem_cons_self) s hs
theorem RepL.ofS {O : ObS} {W : Wd} : ∀ {ys : List (List Nat)}, (∀ s ∈ ys, okS s) → RepL O W (ys.map .str) ((ys.map tx).map V.str)
  | [], _ => RepL.nil
  | y :: ys, h => RepL.cons (Rep.str_iff.mpr ⟨rfl, h y List.mem_cons_self⟩) (RepL.ofS fun s hs => h s (List.mem_cons_of_mem _ hs))
theorem gf_split (ha : PE X o (tB Y f)) (hb : PE X e (tB Y g)) (hs : starEach [e] X.env = [(false, eval e X.env)] := by rfl) (hbase : attributeBase o "split" X.env (eval o X.env) = eval o X.env := by rfl) (hline : (apos.endLine == pos.line) = true := by rfl) :
    PE X (.Call (.Attribute o "split" apos) [e] [] pos) (tF Y (lM1 lSplit f g)) := by
  refine pe_imp (pe_split ha hb hs hbase hline) (t_m1F ?_)
  intro W H s y q z Q h0 os ry hz k
  cases q with
  | str t =>
    match t, hz, ry with
    | [c], hz, ry =>
      simp only [lSplit] at hz
      by_cases cc : (c < 256 && s.length ≤ 1000000) = true
      · rw [if_pos cc] at hz
        cases hz
        simp only [Bool.and_eq_true, decide_eq_true_eq] at cc
        refine ⟨tx s, tx [c], rfl, by rw [ry.str.1], by rfl, by rw [tx_len, sizeLine_eq]; omega, ?_⟩
        intro p hp
        have e1 : Txt.split (tx s) (tx [c]) = (splitS c [] s).map tx := by
          rw [splitS_eq]
          exact SX.split_S (by simp) (by simp; exact cc.1)
        rw [e1]
        exact k W _ p _ (Stp.new0 h0 hp) hp (h0.none hp) upd_same (RepL.ofS (splitS_ok c os fun x hx => by cases hx))
      · rw [if_neg cc] at hz; cases hz
    | [], hz, _ => cases hz
    | _ :: _ :: _, hz, _ => cases hz
  | _ => cases hz
end
end JP

set_option Elab.async false
set_option linter.all false
set_option maxRecDepth 100000
namespace JP
open PySem L2
section
variable {X : Cx} {Y : Cy} {tg : Expr} {tgs : List Expr} {b : BX} {bs : List BX} {pos : Pos} {kk : Nat}
def PGPs (X : Cx) (Y : Cy) (tgs : List Expr) (bs : List BX) : Prop := ∃ g, PGs X tgs g ∧ ∀ (W : Wd) (H : Hp) (σ : St) (env e : Ev) (ps : List PV) (vs : List V) (Q : St → Hp → Prop), EnvR Y W H σ env → RepL Y.O W ps vs → bindAll bs ps env = .ok e → (∀ W' H' σ', Wle W W' → EnvR Y W' H' σ' e → Q σ' H') → g vs σ H Q
end
section
variable {O : ObS} {S : Wd → Hp → Prop}
end
section
variable {X : Cx} {Y : Cy} {tg e e2 e3 : Expr} {f f2 f3 : EX} {pos p tpos : Pos} {elts : List Expr} {kk : Nat}
end
end JP

set_option Elab.async false
set_option linter.all false
set_option maxRecDepth 100000
namespace JP
open PySem L2
section
variable {X : Cx} {Y : Cy} {e : Expr} {f : EX} {pos p p2 pos2 np pos' : Pos} {x : Str}
/-- a class of errors made with a text -/
structure XE0 (K : PySem.W.Frag) (mg : Str → Option Value) (O : ObS) (c : String) (C : Addr) : Prop where
  q : PySem.W.excIn K C [.type "ValueError", .type "Exception", .type "BaseException", .type "object"] "ValueError.__new__" = true
  cl : O.cl c = some C
  mg : mg (PySem.Str.ofString c) = some (.ref C)
  kC : PySem.W.keepIn K (.ref C) = true
  sb : PySem.W.subIn K (.ref C) (.type "BaseException") = some true
  ty : PySem.W.typeIn K (.ref C) = some (.type "type")
  xm : XM O c (.ref C)
end
section
variable {X : Cx} {Y : Cy} {x n : Str} {c : Value} {body suite : List Stmt} {b₀ : Stmt} {np pos pos' : Pos} {s t : SX}
end
end JP

set_option Elab.async false
set_option linter.all false
set_option maxRecDepth 100000
namespace JP
open PySem L2
section
variable {X : Cx} {Y : Cy} {e tg : Expr} {f : EX} {fl fh : OX} {lo hi : Option Expr} {pos p2 : Pos}
theorem walkP_tup {O : ObS} {S : Wd → Hp → Prop} {W1 : Wd} {a : Addr} {ps : List PV} {vs : List V} (tu : TuR O W1 a vs) (rl : RepL O W1 ps vs) (h : ∀ W H, S W H → Hold W H ∧ Wle W1 W) : WalkP O S (Itt O.K a) ps := by
  have at0 : ∀ W H, S W H → H a = some (.tup vs) := fun W H s => by
    obtain ⟨f, e, k⟩ := tu
    obtain ⟨h0, w⟩ := h W H s
    obtain ⟨o, q, z⟩ := h0.there a f (w a f e)
    rw [q, k o z]
  have hl := rl.len
  refine ⟨fun i W H hi s => ⟨vs, vs[i]'(by omega), .inl (.inl (at0 W H s)), List.getElem?_eq_getElem (by omega)⟩, fun W H s => ⟨vs, .inl (.inl (at0 W H s)), by rw [hl]; exact Nat.le_refl _⟩, fun i W H x H' hi s y => ?_⟩
  obtain ⟨e, y⟩ := y
  subst e
  have e1 := y vs (.inl (.inl (at0 W H' s)))
  obtain ⟨v, e2, rv⟩ := rl.get (i := i) (p := ps[i]) (List.getElem?_eq_getElem hi)
  rw [e1] at e2
  cases e2
  exact ⟨W, ps[i], Stp.refl (h W H' s).1, List.getElem?_eq_getElem hi, rv.mono (h W H' s).2⟩
theorem gi_tupB (hK : Y.O.K = X.K) (he : PE X e (tB Y f)) : PI X tg e (tIl Y (lUn iTu f)) := by
  refine pi_imp (pi_tup he) fun σ H R ⟨W, env, E, r⟩ => ⟨W, env, E, (RP.bind E.ho r).mono fun W1 H1 q s1 k1 x rx => ?_⟩
  have E1 := E.step s1
  obtain ⟨ps, hz, kz⟩ := RP.ofO k1
  cases q with
  | tup l =>
    cases hz
    obtain ⟨a, vs, e1, tu, rl⟩ := rx.tup
    rw [← hK]
    have w := walkP_tup (S := SL Y W1) tu rl fun W H s => ⟨s.2.ho, s.1⟩
    obtain ⟨o, q1, q2⟩ := E1.ho.there a _ tu.choose_spec.1
    exact ⟨a, e1, ⟨vs, .inl (.inl (by rw [q1, tu.choose_spec.2 o q2]))⟩, kz W1 H1 (Stp.refl E1.ho) _ w⟩
  | _ => cases hz
theorem gi_any (hK : Y.O.K = X.K) (he : PE X e (tQ Y f)) : PI X tg e (tIl Y (lUn iAny f)) := by
  refine ⟨fun pins s σ H RR I ⟨W, env, E, r⟩ => ?_⟩
  have viaS : lUn iAny f env = lUn iTxt f env → _ := fun h => (gi_str (tg := tg) (pe_qb he)).run pins s σ H RR I ⟨W, env, E, h ▸ r⟩
  have viaL : lUn iAny f env = lUn iSeq f env → _ := fun h => (gi_list (tg := tg) hK he).run pins s σ H RR I ⟨W, env, E, h ▸ r⟩
  have viaT : lUn iAny f env = lUn iTu f env → _ := fun h => (gi_tupB (tg := tg) hK (pe_qb he)).run pins s σ H RR I ⟨W, env, E, h ▸ r⟩
  cases hf : f env with
  | ex x => exact viaS (by simp [hf])
  | bad => exact viaS (by simp [hf])
  | ok p =>
    cases p with
    | str s => exact viaS (by simp [hf])
    | lst xs => exact viaL (by simp [hf])
    | scr xs => exact viaL (by simp [hf])
    | tup xs => exact viaT (by simp [hf])
    | _ =>
      refine viaS ?_
      rw [lUn_app, lUn_app, hf]
      rfl
end
end JP

set_option linter.all false
set_option maxRecDepth 100000
namespace JP
/-- xs[a:b] = ys -/
def splN (xs ys : List PV) (a b : Option Int) : Option (List PV) := match a, b with
  | some i, some j => if 0 ≤ i ∧ i ≤ j ∧ j ≤ xs.length ∧ xs.length + ys.length ≤ 1000000 then some (xs.take i.toNat ++ ys ++ xs.drop j.toNat) else none
  | _, _ => none
@[simp] theorem splN_0 (xs ys : List PV) (i j : Int) : splN xs ys (some i) (some j) = if 0 ≤ i ∧ i ≤ j ∧ j ≤ xs.length ∧ xs.length + ys.length ≤ 1000000 then some (xs.take i.toNat ++ ys ++ xs.drop j.toNat) else none := rfl
def sSlp (i : Nat) (fl fh : OX) (fa : AX) : SX := fun env => match env[i]? with
  | some (.o xs) => thenO (fa env) env fun ys => thenO (fl env) env fun a => thenO (fh env) env fun b => (match splN xs ys a b with | some zs => .nx (env.set i (.o zs)) | none => .bad)
  | _ => .bad
@[simp] theorem sSlp_app (i : Nat) (fl fh : OX) (fa : AX) (env : Ev) : sSlp i fl fh fa env = (match env[i]? with
  | some (.o xs) => thenO (fa env) env fun ys => thenO (fl env) env fun a => thenO (fh env) env fun b => (match splN xs ys a b with | some zs => .nx (env.set i (.o zs)) | none => .bad)
  | _ => .bad) := rfl
/-- tuple(x) -/
def pTup : PV → Option PV
  | .lst xs => some (.tup xs)
  | .tup xs => some (.tup xs)
  | .scr xs => some (.tup xs)
  | .str s => if s.length ≤ 1000000 then some (.tup (s.map fun c => .str [c])) else none
  | _ => none
@[simp] theorem pTup_0 (xs : List PV) : pTup (.lst xs) = some (.tup xs) := rfl
@[simp] theorem pTup_1 (xs : List PV) : pTup (.tup xs) = some (.tup xs) := rfl
@[simp] theorem pTup_2 (xs : List PV) : pTup (.scr xs) = some (.tup xs) := rfl
@[simp] theorem pTup_3 (s : List Nat) : pTup (.str s) = if s.length ≤ 1000000 then some (.tup (s.map fun c => .str [c])) else none := rfl
/-- text[::-1] -/
def pRevS : PV → Option PV
  | .str s => if s.length ≤ 1000000 then some (.str s.reverse) else none
  | _ => none
@[simp] theorem pRevS_0 (s : List Nat) : pRevS (.str s) = if s.length ≤ 1000000 then some (.str s.reverse) else none := rfl
/-- x in y, y a text or a list -/
def pInA : PV → PV → Option PV
  | p, .str s => pInS p (.str s)
  | p, .lst qs => pInL p (.lst qs)
  | _, _ => none
@[simp] theorem pInA_0 (p : PV) (s : List Nat) : pInA p (.str s) = pInS p (.str s) := by cases p <;> rfl
@[simp] theorem pInA_1 (p : PV) (qs : List PV) : pInA p (.lst qs) = pInL p (.lst qs) := by cases p <;> rfl
def pNinA : PV → PV → Option PV
  | p, .str s => pNinS p (.str s)
  | p, .lst qs => pNinL p (.lst qs)
  | _, _ => none
@[simp] theorem pNinA_0 (p : PV) (s : List Nat) : pNinA p (.str s) = pNinS p (.str s) := by cases p <;> rfl
@[simp] theorem pNinA_1 (p : PV) (qs : List PV) : pNinA p (.lst qs) = pNinL p (.lst qs) := by cases p <;> rfl
/-- text * int -/
def pMulS : PV → PV → Option PV
  | .str s, .int n => if 0 ≤ n ∧ n ≤ 1000000 ∧ s.length * n.toNat ≤ 1000000 then some (.str (List.replicate n.toNat s).flatten) else none
  | _, _ => none
@[simp] theorem pMulS_0 (s : List Nat) (n : Int) : pMulS (.str s) (.int n) = if 0 ≤ n ∧ n ≤ 1000000 ∧ s.length * n.toNat ≤ 1000000 then some (.str (List.replicate n.toNat s).flatten) else none := rfl
end JP

set_option Elab.async false
set_option linter.all false
set_option maxRecDepth 100000
namespace JP
open PySem L2
section
variable {X : Cx} {Y : Cy} {o e k v tg : Expr} {f g : EX} {fa : AX} {fl fh : OX} {lo hi : Option Expr} {to : TE} {tl th : TO} {pos pos' p p1 p2 : Pos} {x : Str}
def gCutP (to : TE) (tl th : TO) : TG := fun v σ H Q => to σ H fun o H1 => tl σ H1 fun a H2 => th σ H2 fun c H3 =>
  ∃ l b xs ys i j, o = .ref l ∧ v = .ref b ∧ a = some i ∧ c = some j ∧ H3 l = some (.lst xs) ∧ H3 b = some (.lst ys) ∧ l ≠ b ∧ 0 ≤ i ∧ i ≤ j ∧ j ≤ xs.length ∧ xs.length + ys.length ≤ sizeLine ∧ Q σ (upd H3 l (.lst (xs.take i.toNat ++ ys ++ xs.drop j.toNat)))
section
variable {a b : Expr}
variable {n : Nat}
end
end
end JP

set_option Elab.async false
set_option linter.all false
set_option maxRecDepth 100000
namespace JP
open PySem L2
section
variable {X : Cx} {Y : Cy} {a b : Expr} {f g : EX} {pos : Pos}
theorem fold_reps (s : List Nat) : ∀ (n : Nat) (acc : List Nat), List.foldl (fun x1 x2 => x1 ++ x2) acc.toArray (List.replicate n s.toArray) = (acc ++ (List.replicate n s).flatten).toArray
  | 0, acc => by simp
  | n + 1, acc => by
    rw [List.replicate_succ, List.foldl_cons, List.append_toArray, fold_reps s n (acc ++ s), List.replicate_succ, List.flatten_cons, List.append_assoc]
theorem mul_tx (s : List Nat) (n : Nat) : Txt.mul (tx s) (n : Int) = tx (List.replicate n s).flatten := by
  unfold Txt.mul
  by_cases h1 : (n : Int) < 1
  · rw [if_pos h1]
    have : n = 0 := by omega
    subst this
    rfl
  · rw [if_neg h1]
    by_cases h2 : ((n : Int) == 1 || (tx s).length == 0) = true
    · rw [if_pos h2]
      simp only [Bool.or_eq_true, beq_iff_eq] at h2
      rcases h2 with h2 | h2
      · have : n = 1 := by omega
        subst this
        simp
      · rw [tx_len] at h2
        have : s = [] := List.eq_nil_of_length_eq_zero h2
        subst this
        simp
    · rw [if_neg h2, Int.toNat_natCast]
      have := fold_reps s n []
      rw [List.nil_append] at this
      exact congrArg Str.mk this
def rMulS : R2 := fun x y H Q => ∃ s n, x = .str (tx s) ∧ y = .int ((n : Nat) : Int) ∧ n ≤ 1000000 ∧ s.length * n ≤ 1000000 ∧ Q (.str (tx (List.replicate n s).flatten)) H
theorem op_mulS : OpR X (binaryOp .Mult) rMulS := by
  intro pins s σ H x y v u Q I rx ry h
  obtain ⟨z, n, rfl, rfl, hn, hl, q⟩ := h
  obtain ⟨t, rfl⟩ := rx
  obtain ⟨k, rfl⟩ := ry
  refine PySem.SB.mul ⟨?_, fun h1 _ => ?_, fun h1 _ => ?_⟩ fun t' c => ⟨.str (tx (List.replicate n z).flatten), H, I.tok _, ⟨t', by rw [mul_tx]⟩, q⟩
  · have h2 : ¬ (n : Int) < -(2 ^ 63 : Int) := by omega
    have h3 : ¬ (n : Int) ≥ 2 ^ 63 := by omega
    rw [decide_eq_false h2, decide_eq_false h3]; rfl
  · rw [tx_len]
    have hn0 : 0 < (n : Int) := by omega
    have h2 : (z.length : Int) * n ≤ 2 ^ 63 - 1 := by
      have : ((z.length * n : Nat) : Int) ≤ 1000000 := by omega
      rw [Int.natCast_mul] at this
      exact Int.le_trans this (by decide)
    have := (Int.le_ediv_iff_mul_le hn0).mpr h2
    omega
  · rw [tx_len, Int.toNat_natCast]
    unfold Builtin.Str.tooLong
    exact decide_eq_false (Nat.not_lt.mpr (size_of hl))
theorem flat_ok {s : List Nat} (h : okS s) (n : Nat) : okS (List.replicate n s).flatten := by
  intro c hc
  rw [List.mem_flatten] at hc
  obtain ⟨l, h1, h2⟩ := hc
  rw [(List.mem_replicate.mp h1).2] at h2
  exact h c h2
theorem r2s_mulS {O : ObS} : R2S O rMulS pMulS := by
  intro W H x y p q z Q h0 rx ry hz k
  cases p with
  | str s =>
    cases q with
    | int n =>
      rw [pMulS_0] at hz
      by_cases c : 0 ≤ n ∧ n ≤ 1000000 ∧ s.length * n.toNat ≤ 1000000
      · rw [if_pos c] at hz
        cases hz
        obtain ⟨e1, o1⟩ := rx.str
        refine ⟨s, n.toNat, e1, ?_, by omega, c.2.2, k W H _ (Stp.refl h0) (Rep.str_iff.mpr ⟨rfl, flat_ok o1 _⟩)⟩
        rw [ry.int, Int.toNat_of_nonneg c.1]
      · rw [if_neg c] at hz; cases hz
    | _ => cases hz
  | _ => cases hz
theorem ge_mulS (ha : PE X a (tB Y f)) (hb : PE X b (tB Y g)) : PE X (.BinOp a .Mult b pos) (tP Y (eOp pMulS f g)) := pe_imp (pe_op op_mulS ha hb) (t_op r2s_mulS)
end
end JP

set_option Elab.async false
set_option linter.all false
set_option maxRecDepth 100000
set_option maxHeartbeats 4000000
namespace JP
open PySem PySem.W PySem.Spec PySem.Calls PyProof.Rows
section
variable {prog : Program} {w : World} {A : Around} {E : Value → Shared → Prop} {s : Shared} {K : Frag} {y D1 : Addr} {oy : Obj} {od : Option Obj}
end
end JP

set_option linter.all false
namespace JP
/-- behind an except suite -/
def endS : Option Nat → Ou → Ou
  | none, .nx e => .nx e
  | none, .bk e => .bk e
  | none, .ct e => .ct e
  | some i, .nx e => .nx (e.set i .u)
  | some i, .bk e => .bk (e.set i .u)
  | some i, .ct e => .ct (e.set i .u)
  | _, .rt p => .rt p
  | _, .rf p => .rf p
  | _, .rs p S => .rs p S
  | _, .rg p S => .rg p S
  | _, _ => .bad
@[simp] theorem endS_nx0 (e : Ev) : endS none (.nx e) = .nx e := rfl
@[simp] theorem endS_bk0 (e : Ev) : endS none (.bk e) = .bk e := rfl
@[simp] theorem endS_ct0 (e : Ev) : endS none (.ct e) = .ct e := rfl
@[simp] theorem endS_nx (i : Nat) (e : Ev) : endS (some i) (.nx e) = .nx (e.set i .u) := rfl
@[simp] theorem endS_bk (i : Nat) (e : Ev) : endS (some i) (.bk e) = .bk (e.set i .u) := rfl
@[simp] theorem endS_ct (i : Nat) (e : Ev) : endS (some i) (.ct e) = .ct (e.set i .u) := rfl
@[simp] theorem endS_rt (i : Option Nat) (p : PV) : endS i (.rt p) = .rt p := by cases i <;> rfl
@[simp] theorem endS_rf (i : Option Nat) (p : List PV) : endS i (.rf p) = .rf p := by cases i <;> rfl
@[simp] theorem endS_rs (i : Option Nat) (p : PV) (S : List Cl) : endS i (.rs p S) = .rs p S := by cases i <;> rfl
@[simp] theorem endS_rg (i : Option Nat) (p : List PV) (S : List Cl) : endS i (.rg p S) = .rg p S := by cases i <;> rfl
@[simp] theorem endS_ex (i : Option Nat) (x : PX) (e : Ev) : endS i (.ex x e) = .bad := by cases i <;> rfl
@[simp] theorem endS_bad (i : Option Nat) : endS i .bad = .bad := by cases i <;> rfl
/-- the slot of the clause's name -/
def nameE (x : PX) (e : Ev) : Option Nat → Ev
  | none => e
  | some i => e.set i (.v (.er x.cls x.fs))
@[simp] theorem nameE_0 (x : PX) (e : Ev) : nameE x e none = e := rfl
@[simp] theorem nameE_1 (x : PX) (e : Ev) (i : Nat) : nameE x e (some i) = e.set i (.v (.er x.cls x.fs)) := rfl
def catchE (x : PX) (e : Ev) : List (String × Option Nat × SX) → Ou
  | [] => .ex x e
  | (h, i, t) :: r => if subX x.cls h then endS i (t (nameE x e i)) else catchE x e r
@[simp] theorem catchE_nil (x : PX) (e : Ev) : catchE x e [] = .ex x e := rfl
@[simp] theorem catchE_cons (x : PX) (e : Ev) (h : String) (i : Option Nat) (t : SX) (r : List (String × Option Nat × SX)) : catchE x e ((h, i, t) :: r) = if subX x.cls h then endS i (t (nameE x e i)) else catchE x e r := rfl
def tryE (hs : List (String × Option Nat × SX)) : Ou → Ou
  | .ex x e => catchE x e hs
  | o => o
@[simp] theorem tryE_nx (hs : List (String × Option Nat × SX)) (e : Ev) : tryE hs (.nx e) = .nx e := rfl
@[simp] theorem tryE_bk (hs : List (String × Option Nat × SX)) (e : Ev) : tryE hs (.bk e) = .bk e := rfl
@[simp] theorem tryE_ct (hs : List (String × Option Nat × SX)) (e : Ev) : tryE hs (.ct e) = .ct e := rfl
@[simp] theorem tryE_rt (hs : List (String × Option Nat × SX)) (p : PV) : tryE hs (.rt p) = .rt p := rfl
@[simp] theorem tryE_rf (hs : List (String × Option Nat × SX)) (p : List PV) : tryE hs (.rf p) = .rf p := rfl
@[simp] theorem tryE_rs (hs : List (String × Option Nat × SX)) (p : PV) (S : List Cl) : tryE hs (.rs p S) = .rs p S := rfl
@[simp] theorem tryE_rg (hs : List (String × Option Nat × SX)) (p : List PV) (S : List Cl) : tryE hs (.rg p S) = .rg p S := rfl
@[simp] theorem tryE_bad (hs : List (String × Option Nat × SX)) : tryE hs .bad = .bad := rfl
@[simp] theorem tryE_ex (hs : List (String × Option Nat × SX)) (x : PX) (e : Ev) : tryE hs (.ex x e) = catchE x e hs := rfl
def sTryE (s : SX) (hs : List (String × Option Nat × SX)) : SX := fun env => tryE hs (s env)
@[simp] theorem sTryE_app (s : SX) (hs : List (String × Option Nat × SX)) (env : Ev) : sTryE s hs env = tryE hs (s env) := rfl
@[simp] theorem tryE_if (c : Bool) (a b : SX) (env : Ev) (hs : List (String × Option Nat × SX)) : tryE hs (ifS (.bl c) a b env) = ifS (.bl c) (sTryE a hs) (sTryE b hs) env := by cases c <;> rfl
/-- a field of an error -/
def erF (n : String) : PV → R PV
  | .er _ fs => (match fs.lookup n with | some p => .ok p | none => .bad)
  | _ => .bad
@[simp] theorem erF_er (n c : String) (fs : List (String × PV)) : erF n (.er c fs) = (match fs.lookup n with | some p => .ok p | none => .bad) := rfl
def eErF (n : String) (f : EX) : EX := fun env => (f env).bind (erF n)
@[simp] theorem eErF_app (n : String) (f : EX) (env : Ev) : eErF n f env = (f env).bind (erF n) := rfl
/-- isinstance(e, h) of an error -/
def pIsE (h : String) : PV → Option PV
  | .er c _ => some (.bl (subX c h))
  | _ => none
@[simp] theorem pIsE_er (h c : String) (fs : List (String × PV)) : pIsE h (.er c fs) = some (.bl (subX c h)) := rfl
/-- d.get(k, v) -/
def pDGet2 : PV → PV → PV → Option PV
  | .dct t kvs, p, v => if isKy t p then some ((dLk kvs p).getD v) else none
  | _, _, _ => none
@[simp] theorem pDGet2_0 (t : Bool) (kvs : List (PV × PV)) (p v : PV) : pDGet2 (.dct t kvs) p v = (if isKy t p then some ((dLk kvs p).getD v) else none) := rfl
def eGet2 (f g h : EX) : EX := fun env => (f env).bind fun x => if isDc x then (g env).bind fun y => (h env).bind fun z => ofO (pDGet2 x y z) else .bad
@[simp] theorem eGet2_app (f g h : EX) (env : Ev) : eGet2 f g h env = (f env).bind fun x => if isDc x then (g env).bind fun y => (h env).bind fun z => ofO (pDGet2 x y z) else .bad := rfl
/-- self.n = {}: answers about the field nt and the dict in the field na will be kept there -/
def sFmm (kd i : Nat) (n nt na : String) : SX := fun env => match env[i]? with
  | some (.n k fs) => (match fs.lookup nt, fs.lookup na with
    | some (.v t), some (.d false kvs) => if k = kd ∧ fs.lookup n = none ∧ fs.length < 900 ∧ kvs.length ≤ 900 then .nx (env.set i (.n k (fs ++ [(n, .v (.memo t (.dct false kvs)))]))) else .bad
    | _, _ => .bad)
  | _ => .bad
@[simp] theorem sFmm_app (kd i : Nat) (n nt na : String) (env : Ev) : sFmm kd i n nt na env = (match env[i]? with
  | some (.n k fs) => (match fs.lookup nt, fs.lookup na with
    | some (.v t), some (.d false kvs) => if k = kd ∧ fs.lookup n = none ∧ fs.length < 900 ∧ kvs.length ≤ 900 then .nx (env.set i (.n k (fs ++ [(n, .v (.memo t (.dct false kvs)))]))) else .bad
    | _, _ => .bad)
  | _ => .bad) := rfl
/-- what is kept of two texts -/
def memF (m : List PV → R PV) (t : PV) (l r : List Nat) : Option Bool := match m [t, .str l, .str r] with
  | .ok z => some (isNon z)
  | _ => none
open Classical in
noncomputable def memK (m : List PV → R PV) (kd jt jm : Nat) (env : Ev) : PV → PV → PV → Ou
  | .ob k ps, .str l, .str r => (match ps[jt]?, ps[jm]? with
    | some t, some (.memo t' (.dct false kvs)) => if k = kd ∧ t = t' ∧ l ∈ txKs kvs ∧ r ∈ txKs kvs then thenO (m [t, .str l, .str r]) env (fun z => .rt (.bl (isNon z))) else .bad
    | _, _ => .bad)
  | _, _, _ => .bad
open Classical in
@[simp] theorem memK_app (m : List PV → R PV) (kd jt jm : Nat) (env : Ev) (k : Nat) (ps : List PV) (l r : List Nat) : memK m kd jt jm env (.ob k ps) (.str l) (.str r) = (match ps[jt]?, ps[jm]? with
    | some t, some (.memo t' (.dct false kvs)) => if k = kd ∧ t = t' ∧ l ∈ txKs kvs ∧ r ∈ txKs kvs then thenO (m [t, .str l, .str r]) env (fun z => .rt (.bl (isNon z))) else .bad
    | _, _ => .bad) := rfl
/-- if (l, r) not in o.jm: o.jm[(l, r)] = m(o.jt, l, r) is None; return o.jm[(l, r)] -/
noncomputable def sMem (m : List PV → R PV) (kd jt jm i0 i1 i2 : Nat) : SX := fun env => match env[i0]?, env[i1]?, env[i2]? with
  | some (.v o), some (.v l), some (.v r) => memK m kd jt jm env o l r
  | _, _, _ => .bad
@[simp] theorem sMem_app (m : List PV → R PV) (kd jt jm i0 i1 i2 : Nat) (env : Ev) : sMem m kd jt jm i0 i1 i2 env = (match env[i0]?, env[i1]?, env[i2]? with
  | some (.v o), some (.v l), some (.v r) => memK m kd jt jm env o l r
  | _, _, _ => .bad) := rfl
end JP

set_option Elab.async false
set_option linter.all false
set_option maxRecDepth 100000
set_option maxHeartbeats 4000000
namespace JP
open PySem PySem.Spec PyProof.Rows L2
section
variable {X : Cx} {pins : List (Addr × Obj)} {σ : L2.St} {H : Hp} {s : Shared} {a : Addr} {cls : Value} {d : Option Addr}
/-- an error that is there becomes tracked -/
theorem inv_track {oe : Obj} {vs : Array Value} (J : Inv X pins σ H s) (he : s.heap.get? a = some oe) (hz : Zc cls d oe) (hv : oe.data = .fields vs) (na : H a = none) (n0 : a ∉ X.ex → X.s_0.heap.get? a = none) (nL : a ≠ X.env.locals) (np : ∀ q ∈ X.pn ++ pins, q.1 ≠ a) : Inv X pins σ (upd H a (ErO a cls d)) s := by
  have new : ObjOk X.prog X.w (upd H a (ErO a cls d)) s.heap a (ErO a cls d) := ⟨⟨oe, vs, he, hz, hv⟩, ⟨oe, he⟩, fun _ _ ⟨o1, v1, q1, q2⟩ k => ⟨o1, v1, k o1 q1, q2⟩⟩
  have b := J.base
  refine ⟨J.ok, J.os, J.bare, ⟨b.keep, b.slot, fun c u e1 e2 e3 => ?_, b.there, fun c xs e1 => ?_, fun c u y e1 => ?_, fun c ps e1 => ?_⟩, J.loc, J.cell, ?_, fun x c e1 => ?_, fun q hq => ?_, J.hok.laidN (fun _ _ z => z) na new, J.len⟩
  · rw [upd_ne (fun z => by rw [z] at e1 e3; rw [n0 e3] at e1; cases e1)]
    exact b.free c u e1 e2 e3
  · have := b.tups c xs e1
    rw [upd_ne (fun z => by rw [z, na] at this; cases this)]
    exact this
  · have := b.frzs c u y e1
    rw [upd_ne (fun z => by rw [z, na] at this; cases this)]
    exact this
  · obtain ⟨m, q⟩ := b.tbls c ps e1
    exact ⟨m, by rw [upd_ne (fun z => by rw [z, na] at q; cases q)]; exact q⟩
  · rw [upd_ne (Ne.symm nL)]
    exact J.free
  · obtain ⟨v, o1, q1, q2⟩ := J.cell x c e1
    rw [upd_ne (fun z => by
      rw [z, he] at q1
      cases q1
      rw [hv] at q2
      cases q2)]
    exact J.freeC x c e1
  · obtain ⟨p1, p2, p3⟩ := J.pin q hq
    exact ⟨p1, by rw [upd_ne (np q hq)]; exact p2, p3⟩
/-- into an except suite, out of it -/
theorem inv_in (J : Inv X pins σ H s) (a : Addr) : Inv (X.suite a (X.pn ++ pins)) [] σ H s :=
  ⟨J.ok.suite _ _, J.os, J.bare, J.base, J.loc, J.cell, J.free, J.freeC, fun q hq => J.pin q (by rw [List.append_nil] at hq; exact hq), J.hok, J.len⟩
theorem inv_out {pn : List (Addr × Obj)} (J : Inv (X.suite a (X.pn ++ pins)) pn σ H s) (ok : X.Ok) : Inv X pins σ H s :=
  ⟨ok, J.os, J.bare, J.base, J.loc, J.cell, J.free, J.freeC, fun q hq => J.pin q (List.mem_append_left _ hq), J.hok, J.len⟩
end
abbrev TX := Addr → Value → Option Addr → TS
/-- behind a suite with a name -/
def goneD (i : Nat) (D : Ends) : Ends := { nx := fun τ G => D.nx (τ.set i none) G, rt := D.rt, bk := fun τ G => D.bk (τ.set i none) G, ct := fun τ G => D.ct (τ.set i none) G }
def asT (i : Nat) (ts : TX) : TX := fun a cls d D σ H => ts a cls d (goneD i D) (σ.set i (some (.ref a))) H
/-- what the clauses wish, one behind the other -/
def wE (K : PySem.W.Frag) (Wo : WX) (D : Ends) : List (Value × TX) → WX
  | [] => Wo
  | q :: r => fun cls d σ H => ∃ b, PySem.W.exmOne K cls q.1 = some b ∧ (b = true → ∀ a, H a = none → q.2 a cls d D σ (upd H a (ErO a cls d))) ∧ (b = false → wE K Wo D r cls d σ H)
inductive HdE (X : Cx) : List ExceptHandler → List (Value × TX) → Prop
  | nil : HdE X [] []
  | bare {x : Str} {c : Value} {ts : TX} {b0 : Stmt} {su : List Stmt} {np po : Pos} {hs : List ExceptHandler} {l : List (Value × TX)} (hc : Names X x c) (hsu : ∀ (a : Addr) (cls : Value) (d : Option Addr) (pn : List (Addr × Obj)), PSs (X.suite a pn) (b0 :: su) (ts a cls d)) (r : HdE X hs l) :
      HdE X (.ExceptHandler (some (.Name x np)) none (b0 :: su) po :: hs) ((c, ts) :: l)
  | named {x n : Str} {i : Nat} {c : Value} {ts : TX} {b0 : Stmt} {su : List Stmt} {np po : Pos} {hs : List ExceptHandler} {l : List (Value × TX)} (hN : X.N.Nodup) (hi : X.N[i]? = some n) (hln : X.env.kindOf n = some .local) (hc : Names X x c) (hsu : ∀ (a : Addr) (cls : Value) (d : Option Addr) (pn : List (Addr × Obj)), PSs (X.suite a pn) (b0 :: su) (ts a cls d)) (r : HdE X hs l) :
      HdE X (.ExceptHandler (some (.Name x np)) (some n) (b0 :: su) po :: hs) ((c, asT i ts) :: l)
section
variable {X : Cx} {body : List Stmt} {h1 : ExceptHandler} {hs : List ExceptHandler} {l : List (Value × TX)} {pos : Pos} {tb : WX → TS} {Wo : WX}
theorem ps_tryE (st : X.stack = X.env :: X.outer) (fr : X.env.frame = some X.env.locals) (tk : Takes X Wo)
    (hb : ∀ (W : WX) (pn : List (Addr × Obj)) (xe : Value → Shared → Prop), Takes (X.tr pn xe) W → PassesOwn (model X.prog X.w) X.A X.env xe → PSs (X.tr pn xe) body (tb W))
    (hh : HdE X (h1 :: hs) l) : PS X (.Try body (h1 :: hs) [] [] pos) (fun D σ H => tb (wE X.K Wo D l) D σ H) := by
  constructor
  intro pins s σ H D I hw
  have ok := I.ok
  have af : X.A.frames = some (X.env :: X.outer) := by rw [ok.frames, st]
  refine wpAny_Try_except (wpAny_mono ((hb (wE X.K Wo D l) (X.pn ++ pins) (fun u s1 => wpAny (model X.prog X.w) X.A (noteFrame u X.env) (fun _ s2 => wpAny (model X.prog X.w) X.A (setFlight u none) (fun _ s3 =>
    wpAny (model X.prog X.w) X.A (handleBy u X.env (h1 :: hs)) (SP X pins D) X.xe s3) X.xe s2) X.xe s1) (fun u t xx => ?_) PassesOwn.looking).run [] s σ H D (I.toTry _) hw) (fun fl s1 hsp => ?_) (fun u s1 z => z))
  · obtain ⟨a, B, sI, pins', τ, G, cls, d, rfl, J0, nb, up, sky, na, os, ag, wish⟩ := xx
    have J : Inv X pins τ G sI := J0.ofTry ok
    show wpAny (model X.prog X.w) X.A (noteFrame (.ref a) X.env) _ _ _
    refine Sky.land Zc.steady af fr (by rw [← st]; exact sky) fun g3 fl3 up3 => ?_
    have J3 : Inv X pins τ G { t with heap := g3 } := J.landed nb fl3.1 (up.trans up3) os ag
    obtain ⟨oe3, vs3, he3, hz3, hd3⟩ := fl3.there
    have nfr : a ∉ frs (X.env :: X.outer) := fun hm => by
      obtain ⟨_, o1, q1, q2⟩ := fl3.2.2.1.mem hm
      rw [he3] at q1
      cases q1
      exact q2 _ hd3
    have nL : a ≠ X.env.locals := fun z => nfr (List.mem_filterMap.mpr ⟨X.env, List.mem_cons_self, by rw [fr, z]⟩)
    have nI : sI.heap.get? a = none := by
      cases q : sI.heap.get? a with
      | none => rfl
      | some o1 =>
        have z := nb a o1 q (by rw [st]; exact nfr)
        rw [fl3.2.1] at z
        cases z
    have nE : a ∉ X.ex → X.s_0.heap.get? a = none := fun hx => by
      cases q : X.s_0.heap.get? a with
      | none => rfl
      | some o1 =>
        obtain ⟨o2, z⟩ := J.base.there a o1 q hx
        rw [nI] at z
        cases z
    have np : ∀ q ∈ X.pn ++ pins, q.1 ≠ a := fun q hq z => by
      have := (J.pin q hq).1
      rw [z, nI] at this
      cases this
    have S3 := inv_in J3 a
    have go : ∀ {hs' : List ExceptHandler} {l' : List (Value × TX)}, HdE X hs' l' → wE X.K Wo D l' cls d τ G → wpAny (model X.prog X.w) X.A (handleBy (.ref a) X.env hs') (SP X pins D) X.xe { t with heap := g3 } := by
      intro hs' l' hk
      have test : ∀ {x : Str} {np : Pos} {c : Value} {Q : Value → Shared → Prop} {E : Value → Shared → Prop}, Names X x c → Q c { t with heap := g3 } → wpAny (model X.prog X.w) (X.A.mark (some (.ref a))) (eval (.Name x np) X.env) Q E { t with heap := g3 } := fun {x np c Q E} hc q => by
        obtain ⟨n1, n2, n3 | ⟨n3, n4, n5⟩⟩ := hc
        · exact ld_glob (X := X.suite a (X.pn ++ pins)) S3 n1 n3 q n2
        · exact ld_blt (X := X.suite a (X.pn ++ pins)) S3 n1 n3 n4 q n5 n2
      have LT : PySem.W.Looks (model X.prog X.w) g3 (typeOf (.ref a)) cls := fun A' Q' E' s' k q => wpAny_typeOf_ref (k _ _ he3) (by rw [hz3.1]; exact q)
      have trk : ∀ {g4 : Heap}, B.StaysIn g4 → t.heap.UpToSlots g4 → (∃ oe vs, g4.get? a = some oe ∧ Zc cls d oe ∧ oe.data = .fields vs) → Inv X pins τ (upd G a (ErO a cls d)) { t with heap := g4 } := fun {g4} s4 u4 ⟨oe, vs, e1, e2, e3⟩ => by
        have J4 : Inv X pins τ G { t with heap := g4 } := J.landed nb s4 (up.trans u4) os ag
        exact inv_track J4 e1 e2 e3 na nE nL np
      induction hk with
      | nil =>
        intro w
        refine wpAny_handleBy_nil ?_
        obtain ⟨k1, k2, k3, oe, vs, T, oT, ts', f1, f2, f3, f4, f5⟩ := id fl3
        unfold PySem.passOn
        refine wpAny_bind (wpAny_field f1 f3 f4 ?_)
        rw [if_neg (show ¬ ((Value.ref T == Value.none) = true) by simp)]
        have on : wpAny (model X.prog X.w) X.A (setFlight (.ref a) X.env.frame) (fun _ s4 => wpAny (model X.prog X.w) X.A (throw (.ref a) : Sem Flow) (SP X pins D) X.xe s4) X.xe { t with heap := g3 } := by
          rw [fr]
          refine HandSPX.setFlight_upZ fl3 fun g4 hh4 up4 => ?_
          exact wpAny_throw (tk _ _ ⟨a, B, sI, pins, τ, G, cls, d, rfl, J, nb, (up.trans up3).trans up4, .inr (.inr (by rw [st]; exact hh4)), na, os, ag, w⟩)
        first
          | exact wpAny_bind (wpAny_pure (wpAny_bind on))
          | exact wpAny_bind on
      | bare hc hsu r ih =>
        intro w
        obtain ⟨b, w1, w2, w3⟩ := w
        refine wpAny_handleBy_cons (codeAny_handlers_test (test hc ((PySem.W.exm_one (M := model X.prog X.w) (J3.kIn) LT w1).here ?_))) (by intro q; cases q)
        cases b with
        | false => exact ih (w3 rfl)
        | true =>
          refine codeAny_handlers_suite (HandSPX.lands_againZ fl3 fun g4 fl4 up4 => ?_)
          have J4 := trk fl4.1 (up3.trans up4) fl4.there
          refine wpAny_mono ((hsu a cls d (X.pn ++ pins)).run [] _ _ _ _ (inv_in J4 a) (w2 rfl a na)) (fun fl s6 z => ?_) (fun _ _ z => False.elim z)
          cases fl with
          | next =>
            obtain ⟨τ6, G6, K6, q⟩ := z
            exact ⟨τ6, G6, inv_out K6 ok, q⟩
          | brk =>
            obtain ⟨τ6, G6, K6, q⟩ := z
            exact ⟨τ6, G6, inv_out K6 ok, q⟩
          | cont =>
            obtain ⟨τ6, G6, K6, q⟩ := z
            exact ⟨τ6, G6, inv_out K6 ok, q⟩
          | ret u =>
            obtain ⟨v, τ6, G6, K6, r6, q⟩ := z
            exact ⟨v, τ6, G6, inv_out K6 ok, r6, q⟩
      | named hN hi hln hc hsu r ih =>
        intro w
        obtain ⟨b, w1, w2, w3⟩ := w
        refine wpAny_handleBy_cons (codeAny_handlers_test (test hc ((PySem.W.exm_one (M := model X.prog X.w) (J3.kIn) LT w1).here ?_))) (by intro q; cases q)
        cases b with
        | false => exact ih (w3 rfl)
        | true =>
          refine codeAny_handlers_suite_as (HandSPX.lands_againZ fl3 fun g4 fl4 up4 => ?_)
          have J4 := trk fl4.1 (up3.trans up4) fl4.there
          refine store_ok (X := X.suite a (X.pn ++ pins)) (v := .ref a) (inv_in J4 a) hN hi (.inl hln) rfl (fun s5 S5 => ?_) (.inr hln)
          refine wpAny_mono ((hsu a cls d (X.pn ++ pins)).run [] s5 _ _ _ S5 (w2 rfl a na)) (fun fl s6 z => ?_) (fun _ _ z => False.elim z)
          cases fl with
          | next =>
            obtain ⟨τ6, G6, K6, q⟩ := z
            exact gone_ok (inv_out K6 ok) hN hi hln fun s7 K7 => ⟨_, G6, K7, q⟩
          | brk =>
            obtain ⟨τ6, G6, K6, q⟩ := z
            exact gone_ok (inv_out K6 ok) hN hi hln fun s7 K7 => ⟨_, G6, K7, q⟩
          | cont =>
            obtain ⟨τ6, G6, K6, q⟩ := z
            exact gone_ok (inv_out K6 ok) hN hi hln fun s7 K7 => ⟨_, G6, K7, q⟩
          | ret u =>
            obtain ⟨v, τ6, G6, K6, r6, q⟩ := z
            exact gone_ok (inv_out K6 ok) hN hi hln fun s7 K7 => ⟨v, _, G6, K7, r6, q⟩
    exact go hh wish
  · cases fl with
    | next =>
      obtain ⟨τ, G, K, q⟩ := hsp
      exact wpAny_execs_nil ⟨τ, G, K.ofTry ok, q⟩
    | brk =>
      obtain ⟨τ, G, K, q⟩ := hsp
      exact ⟨τ, G, K.ofTry ok, q⟩
    | cont =>
      obtain ⟨τ, G, K, q⟩ := hsp
      exact ⟨τ, G, K.ofTry ok, q⟩
    | ret u =>
      obtain ⟨v, τ, G, K, r, q⟩ := hsp
      exact ⟨v, τ, G, K.ofTry ok, r, q⟩
end
end JP

set_option Elab.async false
set_option linter.all false
set_option maxRecDepth 100000
set_option maxHeartbeats 4000000
namespace JP
open PySem L2
def Cy.sE (Y : Cy) : Cy := { Y with Wx := fun _ _ _ _ => False }
inductive HdY (X : Cx) (Y : Cy) : List ExceptHandler → List (String × Option Nat × SX) → Prop
  | nil : HdY X Y [] []
  | bare {x : Str} {c : Value} {t : SX} {b0 : Stmt} {su : List Stmt} {np po : Pos} {hs : List ExceptHandler} {l : List (String × Option Nat × SX)} (h : String) (hc : Names X x c) (xm : XM Y.O h c) (hsu : ∀ (a : Addr) (pn : List (Addr × Obj)), PSs (X.suite a pn) (b0 :: su) (tS Y.sE t)) (r : HdY X Y hs l) :
      HdY X Y (.ExceptHandler (some (.Name x np)) none (b0 :: su) po :: hs) ((h, none, t) :: l)
  | named {x n : Str} {c : Value} {t : SX} {b0 : Stmt} {su : List Stmt} {np po : Pos} {hs : List ExceptHandler} {l : List (String × Option Nat × SX)} (i : Nat) (h : String) (hN : X.N.Nodup) (hc : Names X x c) (xm : XM Y.O h c) (hsu : ∀ (a : Addr) (pn : List (Addr × Obj)), PSs (X.suite a pn) (b0 :: su) (tS Y.sE t)) (r : HdY X Y hs l) (hi : X.N[i]? = some n := by rfl) (hln : X.env.kindOf n = some .local := by rfl) :
      HdY X Y (.ExceptHandler (some (.Name x np)) (some n) (b0 :: su) po :: hs) ((h, some i, t) :: l)
section
variable {X : Cx} {Y : Cy}
theorem EnvR.sE {W : Wd} {H : Hp} {σ : L2.St} {env : Ev} (E : EnvR Y W H σ env) : EnvR Y.sE W H σ env := E.wish _
theorem EnvR.unE {W : Wd} {H : Hp} {σ : L2.St} {env : Ev} (E : EnvR Y.sE W H σ env) : EnvR Y W H σ env := E.unwish
theorem hdY_run (hK : Y.O.K = X.K) {hs : List ExceptHandler} {l : List (String × Option Nat × SX)} (h : HdY X Y hs l) : ∃ l', HdE X hs l' ∧ ∀ (D : Ends) (W : Wd) (H : Hp) (σ : L2.St) (e : Ev) (cls : Value) (d : Option Addr) (px : PX), EnvR Y W H σ e → ExR Y.O W cls d px → OP Y D W (catchE px e l) → wE X.K Y.Wx D l' cls d σ H := by
  induction h with
  | nil => exact ⟨[], .nil, fun D W H σ e cls d px E xr q => q W H σ cls d (Wle.refl W) E xr⟩
  | @bare x c t b0 su np po hs l h hc xm hsu r ih =>
    obtain ⟨l', k1, k2⟩ := ih
    refine ⟨(c, fun _ _ _ => tS Y.sE t) :: l', .bare hc (fun a cls d pn => hsu a pn) k1, fun D W H σ e cls d px E xr q => ?_⟩
    obtain ⟨C, c1, c2, c3⟩ := id xr
    rw [catchE_cons] at q
    refine ⟨subX px.cls h, by rw [c2, ← hK]; exact xm _ C c1, fun hb a na => ?_, fun hb => ?_⟩
    · rw [if_pos hb] at q
      have st : Stp W H (putW W a (ErO a cls d)) (upd H a (ErO a cls d)) := Stp.new E.ho na
      refine ⟨_, e, (E.step st).sE, ?_⟩
      have q' := q.up st.le
      rw [nameE_0] at q'
      cases et : t e with
      | nx e2 => rw [et] at q'; exact fun W5 H5 σ5 l5 E5 => q' W5 H5 σ5 l5 E5.unE
      | bk e2 => rw [et] at q'; exact fun W5 H5 σ5 l5 E5 => q' W5 H5 σ5 l5 E5.unE
      | ct e2 => rw [et] at q'; exact fun W5 H5 σ5 l5 E5 => q' W5 H5 σ5 l5 E5.unE
      | rt p => rw [et] at q'; exact q'
      | rf p => rw [et] at q'; exact q'
      | rs p S => rw [et] at q'; exact q'
      | rg p S => rw [et] at q'; exact q'
      | ex x' e2 => rw [et] at q'; exact False.elim q'
      | bad => rw [et] at q'; exact False.elim q'
    · rw [if_neg (by rw [hb]; exact Bool.false_ne_true)] at q
      exact k2 D W H σ e cls d px E xr q
  | @named x n c t b0 su np po hs l i h hN hc xm hsu r hi hln ih =>
    obtain ⟨l', k1, k2⟩ := ih
    refine ⟨(c, asT i fun _ _ _ => tS Y.sE t) :: l', .named hN hi hln hc (fun a cls d pn => hsu a pn) k1, fun D W H σ e cls d px E xr q => ?_⟩
    obtain ⟨C, c1, c2, c3⟩ := id xr
    rw [catchE_cons] at q
    refine ⟨subX px.cls h, by rw [c2, ← hK]; exact xm _ C c1, fun hb a na => ?_, fun hb => ?_⟩
    · rw [if_pos hb] at q
      have st : Stp W H (putW W a (ErO a cls d)) (upd H a (ErO a cls d)) := Stp.new E.ho na
      have rv : Rep Y.O (putW W a (ErO a cls d)) (.er px.cls px.fs) (.ref a) := Rep.er_iff.mpr ⟨a, cls, d, rfl, putW_same, xr.mono st.le⟩
      refine ⟨_, _, ((E.step st).setv (i := i) rv).sE, ?_⟩
      have q' := q.up st.le
      rw [nameE_1] at q'
      cases et : t (e.set i (.v (.er px.cls px.fs))) with
      | nx e2 => rw [et] at q'; exact fun W5 H5 σ5 l5 E5 => q' W5 H5 _ l5 (E5.unE.setu (i := i) (x := none))
      | bk e2 => rw [et] at q'; exact fun W5 H5 σ5 l5 E5 => q' W5 H5 _ l5 (E5.unE.setu (i := i) (x := none))
      | ct e2 => rw [et] at q'; exact fun W5 H5 σ5 l5 E5 => q' W5 H5 _ l5 (E5.unE.setu (i := i) (x := none))
      | rt p => rw [et] at q'; exact q'
      | rf p => rw [et] at q'; exact q'
      | rs p S => rw [et] at q'; exact q'
      | rg p S => rw [et] at q'; exact q'
      | ex x' e2 => rw [et] at q'; exact False.elim q'
      | bad => rw [et] at q'; exact False.elim q'
    · rw [if_neg (by rw [hb]; exact Bool.false_ne_true)] at q
      exact k2 D W H σ e cls d px E xr q
theorem gs_tryE {body : List Stmt} {h1 : ExceptHandler} {hs : List ExceptHandler} {l : List (String × Option Nat × SX)} {s : SX} {pos : Pos} (hK : Y.O.K = X.K) (tk : Takes X Y.Wx) (st : X.stack = X.env :: X.outer) (fr : X.env.frame = some X.env.locals)
    (hb : ∀ (W : WX) (pn : List (Addr × Obj)) (xe : Value → Shared → Prop), Takes (X.tr pn xe) W → PassesOwn (model X.prog X.w) X.A X.env xe → PSs (X.tr pn xe) body (tS { Y with Wx := W } s))
    (hh : HdY X Y (h1 :: hs) l) : PS X (.Try body (h1 :: hs) [] [] pos) (tS Y (sTryE s l)) := by
  obtain ⟨l', k1, k2⟩ := hdY_run hK hh
  refine ps_imp (ps_tryE (tb := fun W => tS { Y with Wx := W } s) (Wo := Y.Wx) st fr tk hb k1) fun D σ H ⟨W, env, E, q⟩ => ⟨W, env, E.wish _, ?_⟩
  have q : OP Y D W (sTryE s l env) := q
  unfold sTryE at q
  cases e : s env with
  | nx e' => rw [e] at q; exact fun W' H' σ' l E' => q W' H' σ' l E'.unwish
  | bk e' => rw [e] at q; exact fun W' H' σ' l E' => q W' H' σ' l E'.unwish
  | ct e' => rw [e] at q; exact fun W' H' σ' l E' => q W' H' σ' l E'.unwish
  | rt p => rw [e] at q; exact q
  | rf p => rw [e] at q; exact q
  | rs p S => rw [e] at q; exact q
  | rg p S => rw [e] at q; exact q
  | bad => rw [e] at q; exact q
  | ex px e' =>
    rw [e, tryE_ex] at q
    exact fun W' H' σ' cls d l E' xr => k2 D W' H' σ' e' cls d px E'.unwish xr (q.up l)
end
section
variable {X : Cx} {Y : Cy} {a b : Expr} {f : EX} {pos p pb : Pos}
/-- of each class of errors: its instances' fields may be read -/
def XFs (O : ObS) (fn : String) : Prop := ∀ c C, O.cl c = some C → XfC O.K C ∧ PySem.W.findIn O.K (.ref C) (PySem.Str.ofString fn) = some none
/-- .. isinstance of c, named h, tells what subX does -/
def XIs (O : ObS) (h : String) (v : Value) : Prop := ∀ c C, O.cl c = some C → ExcC O.K C ∧ PySem.W.kitOne O.K (.ref C) v = some (subX c h)
def tEf (n : Str) (K : PySem.W.Frag) (te : TE) : TE := fun σ H Q => te σ H fun x H1 => ∃ (a C dd : Addr) (fs : List (Str × V)) (v : V), x = .ref a ∧ H1 a = some (ErO a (.ref C) (some dd)) ∧ XfC K C ∧ PySem.W.findIn K (.ref C) n = some none ∧ H1 dd = some (.xd fs) ∧ fs.lookup n = some v ∧ Q v H1
theorem pe_ef {n : Str} {te : TE} (he : PE X a te) (hb : attributeBase a n X.env (eval a X.env) = eval a X.env := by rfl) : PE X (.Attribute a n pos) (tEf n X.K te) := by
  constructor
  intro pins s σ H Q I h
  refine attr_of hb (thn (he.run pins s σ H _ I h) fun u s1 hh => ?_)
  obtain ⟨x, H1, I1, rx, y, C, dd, fs, v, ex, ho, T, hno, hd, hl, q⟩ := hh
  subst ex
  obtain rfl : u = Value.ref y := rx
  obtain ⟨⟨oe, vs, e1, e2, e3⟩, _, _⟩ := I1.hok y _ ho
  obtain ⟨mA, m1, m2⟩ := (I1.hok dd _ hd : ObjOk X.prog X.w H1 s1.heap dd (.xd fs))
  obtain ⟨od, o1, o2⟩ := lookIn_ns m1
  obtain ⟨u, u1, u2⟩ := RelO.some_of (v := v) (o := mA n) (by rw [← hl]; exact m2 n)
  have J : PySem.W.InstAt s1.heap y oe C (some od) := ⟨e1, e2.1, by unfold PySem.W.notCls; rw [e3] <;> rfl, by rw [e2.2]; exact o1⟩
  exact HandSPX.exc_get I1.kIn J T.ga T.gg T.exC (PySem.W.findObj_own T.hdC hno rfl (by rw [o2, u1])) (handed_of u2) ⟨v, H1, I1.tok _, u2, q⟩
theorem ge_erf (fn : String) (hK : Y.O.K = X.K) (T : XFs Y.O fn) (ha : PE X a (tP Y f)) (hb : attributeBase a (PySem.Str.ofString fn) X.env (eval a X.env) = eval a X.env := by rfl) : PE X (.Attribute a (PySem.Str.ofString fn) pos) (tP Y (eErF fn f)) := by
  refine pe_imp (pe_ef ha hb) fun σ H Q ⟨W, env, E, r⟩ => ⟨W, env, E, (RP.bind E.ho r).mono fun W1 H1 p s1 k1 x rx => ?_⟩
  have E1 := E.step s1
  cases p with
  | er c fs =>
    rw [erF_er] at k1
    cases el : fs.lookup fn with
    | none => rw [el] at k1; exact False.elim k1
    | some z =>
      rw [el] at k1
      obtain ⟨y, cls, d, e1, e2, C, c1, c2, c3⟩ := Rep.er_iff.mp rx
      rcases c3 with c3 | ⟨dd, fv, d1, d2, d3⟩
      · have c3 : fs = [] := c3.1
        rw [c3] at el; cases el
      · obtain ⟨v, l1, l2⟩ := d3.look el
        obtain ⟨t1, t2⟩ := T c C c1
        obtain ⟨o, q1, q2⟩ := E1.ho.there y _ e2
        obtain ⟨o', q3, q4⟩ := E1.ho.there dd _ d2
        exact ⟨y, C, dd, fv, v, e1, by rw [q1, q2, c2, d1], by rw [← hK]; exact t1, by rw [← hK]; exact t2, by rw [q3, q4], l1, k1.now E1.ho v l2⟩
  | _ => exact False.elim k1
/-- isinstance(e, c) -/
def rIsX (K : PySem.W.Frag) : List V → Hp → VK → Prop := fun xs H Q => ∃ (y C : Addr) (d : Option Addr) (c : V) (cv : Value) (b : Bool), xs = [.ref y, c] ∧ (∀ u, RelV c u → u = cv) ∧ H y = some (ErO y (.ref C) d) ∧ (∀ dd, d = some dd → ∃ fv, H dd = some (.xd fv)) ∧ ExcC K C ∧ PySem.W.kitOne K (.ref C) cv = some b ∧ Q (.bl b) H
end
end JP

set_option linter.all false
set_option maxRecDepth 100000
namespace JP
@[simp] theorem seqO_seqO (o : Ou) (s t : SX) : seqO (seqO o s) t = seqO o (sSeq s t) := by cases o <;> rfl
@[simp] theorem seqO_if (c : Bool) (a b t : SX) (env : Ev) : seqO (ifS (.bl c) a b env) t = ifS (.bl c) (sSeq a t) (sSeq b t) env := by cases c <;> rfl
@[simp] theorem tryK_if (c : Bool) (a b : SX) (env : Ev) (i : Nat) (h : String) (t : SX) : tryK (ifS (.bl c) a b env) i h t = ifS (.bl c) (sTry i a h t) (sTry i b h t) env := by cases c <;> rfl
/-- what a run ends in -/
structure Res (o : Ou) (Q : Ou → Prop) : Prop where
  h : Q o
theorem Res_eq (o : Ou) (Q : Ou → Prop) : Res o Q = Q o := propext ⟨Res.h, Res.mk⟩
@[simp] theorem Res_nx (e : Ev) (Q : Ou → Prop) : Res (.nx e) Q = Q (.nx e) := Res_eq _ _
@[simp] theorem Res_rt (e : PV) (Q : Ou → Prop) : Res (.rt e) Q = Q (.rt e) := Res_eq _ _
@[simp] theorem Res_rf (e : List PV) (Q : Ou → Prop) : Res (.rf e) Q = Q (.rf e) := Res_eq _ _
@[simp] theorem Res_rs (e : PV) (S : List Cl) (Q : Ou → Prop) : Res (.rs e S) Q = Q (.rs e S) := Res_eq _ _
@[simp] theorem Res_rg (e : List PV) (S : List Cl) (Q : Ou → Prop) : Res (.rg e S) Q = Q (.rg e S) := Res_eq _ _
@[simp] theorem Res_bk (e : Ev) (Q : Ou → Prop) : Res (.bk e) Q = Q (.bk e) := Res_eq _ _
@[simp] theorem Res_ct (e : Ev) (Q : Ou → Prop) : Res (.ct e) Q = Q (.ct e) := Res_eq _ _
@[simp] theorem Res_ex (x : PX) (e : Ev) (Q : Ou → Prop) : Res (.ex x e) Q = Q (.ex x e) := Res_eq _ _
@[simp] theorem Res_bad (Q : Ou → Prop) : Res .bad Q = Q .bad := Res_eq _ _
theorem res_if {c : Bool} {a b : SX} {env : Ev} {Q : Ou → Prop} (h1 : c = true → Res (a env) Q) (h2 : c = false → Res (b env) Q) : Res (ifS (.bl c) a b env) Q := by
  cases c
  · exact h2 rfl
  · exact h1 rfl
/-- behind a loop's body -/
def After (o : Ou) (I B : Ev → Prop) (Q : Ou → Prop) : Prop := match o with
  | .nx e => I e
  | .ct e => I e
  | .bk e => B e
  | o => Q o
@[simp] theorem After_nx (e : Ev) (I B : Ev → Prop) (Q : Ou → Prop) : After (.nx e) I B Q = I e := rfl
@[simp] theorem After_ct (e : Ev) (I B : Ev → Prop) (Q : Ou → Prop) : After (.ct e) I B Q = I e := rfl
@[simp] theorem After_bk (e : Ev) (I B : Ev → Prop) (Q : Ou → Prop) : After (.bk e) I B Q = B e := rfl
@[simp] theorem After_rt (e : PV) (I B : Ev → Prop) (Q : Ou → Prop) : After (.rt e) I B Q = Q (.rt e) := rfl
@[simp] theorem After_rf (e : List PV) (I B : Ev → Prop) (Q : Ou → Prop) : After (.rf e) I B Q = Q (.rf e) := rfl
@[simp] theorem After_rs (e : PV) (S : List Cl) (I B : Ev → Prop) (Q : Ou → Prop) : After (.rs e S) I B Q = Q (.rs e S) := rfl
@[simp] theorem After_rg (e : List PV) (S : List Cl) (I B : Ev → Prop) (Q : Ou → Prop) : After (.rg e S) I B Q = Q (.rg e S) := rfl
@[simp] theorem After_ex (x : PX) (e : Ev) (I B : Ev → Prop) (Q : Ou → Prop) : After (.ex x e) I B Q = Q (.ex x e) := rfl
@[simp] theorem After_bad (I B : Ev → Prop) (Q : Ou → Prop) : After .bad I B Q = Q .bad := rfl
theorem forF_res (b : BX) (s t : SX) (I : Nat → Ev → Prop) (Q : Ou → Prop) : ∀ (ps : List PV) (n : Nat) (env : Ev), I n env →
    (∀ k p e, ps[k]? = some p → I (n + k) e → ∃ e1, b p e = .ok e1 ∧ Res (s e1) (fun o => After o (I (n + k + 1)) (fun e => Res (t e) Q) Q)) →
    (∀ e, I (n + ps.length) e → Res (t e) Q) → Res (seqO (forF b s ps env) t) Q
  | [], n, env, h0, _, hk => hk env h0
  | p :: ps, n, env, h0, hs, hk => by
    obtain ⟨e1, hb, h⟩ := hs 0 p env rfl h0
    unfold forF
    rw [hb]
    have go : ∀ e2, I (n + 0 + 1) e2 → Res (seqO (forF b s ps e2) t) Q := fun e2 hi => by
      refine forF_res b s t I Q ps (n + 1) e2 hi (fun k p e hk hi => ?_) (fun e hi => hk e (by rw [show n + (p :: ps).length = n + 1 + ps.length by simp; omega]; exact hi))
      have := hs (k + 1) p e (by simpa using hk) (by rw [show n + (k + 1) = n + 1 + k by omega]; exact hi)
      rw [show n + (k + 1) + 1 = n + 1 + k + 1 by omega] at this
      exact this
    have h := h.h
    revert h
    dsimp only
    cases s e1 with
    | nx e2 => exact go e2
    | ct e2 => exact go e2
    | bk e2 => exact id
    | rt _ => exact fun h => ⟨h⟩
    | rf _ => exact fun h => ⟨h⟩
    | rs _ _ => exact fun h => ⟨h⟩
    | rg _ _ => exact fun h => ⟨h⟩
    | ex _ _ => exact fun h => ⟨h⟩
    | bad => exact fun h => ⟨h⟩
theorem res_for {b : BX} {it : AX} {s t : SX} {env : Ev} {Q : Ou → Prop} (I : Nat → Ev → Prop) {ps : List PV} (hit : it env = .ok ps) (h0 : I 0 env)
    (hs : ∀ k p e, ps[k]? = some p → I k e → ∃ e1, b p e = .ok e1 ∧ Res (s e1) (fun o => After o (I (k + 1)) (fun e => Res (t e) Q) Q))
    (hk : ∀ e, I ps.length e → Res (t e) Q) : Res (seqO (sFor b it s env) t) Q := by
  rw [sFor_app, hit]
  exact forF_res b s t I Q ps 0 env h0 (fun k p e hk hi => by rw [Nat.zero_add] at hi ⊢; exact hs k p e hk hi) (by rw [Nat.zero_add]; exact hk)
theorem m_of {n : Nat} {md : List Bool} {s : SX} {ps : List PV} {p : R PV} (hl : ps.length = md.length) (h : Res (s (env0 n (argS md ps))) (fun o => outP o = p)) : mkP n md s ps = p := by
  unfold mkP
  rw [if_pos hl]
  exact h.h
theorem f_of {n : Nat} {md : List Bool} {s : SX} {ps : List PV} {p : R (List PV)} (hl : ps.length = md.length) (h : Res (s (env0 n (argS md ps))) (fun o => outF o = p)) : mkF n md s ps = p := by
  unfold mkF
  rw [if_pos hl]
  exact h.h
/-- .. where the answer is known by a property -/
theorem m_ex {n : Nat} {md : List Bool} {s : SX} {ps : List PV} {P : R PV → Prop} (hl : ps.length = md.length) (h : Res (s (env0 n (argS md ps))) (fun o => P (outP o))) : P (mkP n md s ps) := by
  unfold mkP
  rw [if_pos hl]
  exact h.h
/-- a for over names only: each sign, each number .. -/
theorem rngP_at {lo : Int} {n k : Nat} {p : PV} (h : (rngP lo n)[k]? = some p) : k < n ∧ p = .int (lo + (k : Nat)) := by
  simp only [rngP, List.getElem?_map] at h
  by_cases hk : k < n
  · simp [hk] at h
    exact ⟨hk, h.symm⟩
  · have : (List.range n)[k]? = none := by simp; omega
    rw [this] at h
    cases h
@[simp] theorem rngP_len (lo : Int) (n : Nat) : (rngP lo n).length = n := by simp [rngP]
theorem atN_nat {α : Type} (xs : List α) (k : Nat) : atN xs (k : Int) = xs[k]? := by simp [atN]
@[simp] theorem atN_lit {α : Type} (xs : List α) (n : Nat) : atN xs (no_index (@OfNat.ofNat Int n _)) = xs[n]? := atN_nat xs n
theorem atN_ints (xs : List Int) (k : Nat) : atN (xs.map PV.int) (k : Int) = (xs[k]?).map PV.int := by simp [atN]
theorem smallI_of {a : Int} (h : -(2 ^ 64) < a ∧ a < 2 ^ 64) : smallI a = true := by simp only [smallI, decide_eq_true_eq]; exact h
set_option exponentiation.threshold 5000 in
theorem wideI_of {a : Int} (h : a.natAbs < 10 ^ 200) : wideI a = true := by
  simp only [wideI, decide_eq_true_eq]
  exact Nat.lt_trans h (by decide)
theorem pMul_s {a b : Int} (h : smallI a = true) : pMul (.int a) (.int b) = some (.int (a * b)) := by simp [h]
theorem pMul_r {a b : Int} (h : smallI b = true) : pMul (.int a) (.int b) = some (.int (a * b)) := by simp [h]
theorem pPow_s {a : Int} {n : Nat} (h : smallI a = true) (hn : (n : Int) ≤ 1000) : pPow (.int a) (.int (n : Int)) = some (.int (a ^ n)) := by simp [h, hn]
theorem pMod_s {a b : Int} (h : 0 < b) : pMod (.int a) (.int b) = some (.int (a % b)) := by simp [h]
theorem rn1_nat (n : Nat) (h : n < 2 ^ 62) : iRn1 (.int (n : Int)) = some (rngP 0 n) := by
  have hb : (decide (-(2 ^ 62) ≤ (n : Int)) && decide ((n : Int) < 2 ^ 62)) = true := by
    simp only [Bool.and_eq_true, decide_eq_true_eq]; omega
  simp -implicitDefEqProofs only [iRn1, hb, if_pos, Int.toNat_natCast]
end JP

set_option linter.all false
set_option maxRecDepth 100000
namespace JP
theorem digitCh : ∀ d : Nat, d < 10 → (Nat.digitChar d).toNat = 48 + d := by decide
theorem numD_lt {n : Nat} (h : n < 10) : numD n = [48 + n] := by
  unfold numD
  rw [Nat.toDigits_of_lt_base h]
  show [(Nat.digitChar n).toNat] = _
  rw [digitCh n h]
theorem numD_step {n : Nat} (h : 10 ≤ n) : numD n = numD (n / 10) ++ [48 + n % 10] := by
  have hm : n % 10 < 10 := Nat.mod_lt n (by decide)
  have t : Nat.toDigits 10 (n / 10) ++ Nat.toDigits 10 (n % 10) = Nat.toDigits 10 (10 * (n / 10) + n % 10) := Nat.toDigits_append_toDigits (by decide) (by omega) hm
  rw [Nat.div_add_mod] at t
  show (Nat.toDigits 10 n).map Char.toNat = _
  rw [← t, List.map_append, Nat.toDigits_of_lt_base hm]
  show (Nat.toDigits 10 (n / 10)).map Char.toNat ++ [(Nat.digitChar (n % 10)).toNat] = _
  rw [digitCh _ hm] <;> rfl
theorem numD_ne (n : Nat) : numD n ≠ [] := by
  by_cases h : n < 10
  · rw [numD_lt h]; simp
  · rw [numD_step (by omega)]; simp
theorem digS_app (a b : List Nat) : digS (a ++ b) = (digS a && digS b) := by simp [digS]
theorem valS_app1 (a : List Nat) (c : Nat) : valS (a ++ [c]) = valS a * 10 + (c - 48) := by simp [valS]
theorem numD_dig (n : Nat) : digS (numD n) = true := by
  induction n using Nat.strongRecOn with
  | _ n ih =>
    by_cases h : n < 10
    · rw [numD_lt h]; simp [digS]; omega
    · rw [numD_step (by omega), digS_app, ih (n / 10) (by omega)]
      simp [digS]; omega
theorem numD_val (n : Nat) : valS (numD n) = n := by
  induction n using Nat.strongRecOn with
  | _ n ih =>
    by_cases h : n < 10
    · rw [numD_lt h]; simp [valS]
    · rw [numD_step (by omega), valS_app1, ih (n / 10) (by omega)]
      omega
theorem numD_len {n : Nat} : ∀ {k : Nat}, 0 < k → n < 10 ^ k → (numD n).length ≤ k := by
  induction n using Nat.strongRecOn with
  | _ n ih =>
    intro k hk h
    by_cases h1 : n < 10
    · rw [numD_lt h1]; simp; omega
    · rw [numD_step (by omega)]
      match k, hk with
      | 1, _ => omega
      | k + 2, _ =>
        have e : (10 : Nat) ^ (k + 2) = 10 ^ (k + 1) * 10 := Nat.pow_succ ..
        have := ih (n / 10) (by omega) (k := k + 1) (by omega) (by omega)
        simp; omega
theorem numD_head {n : Nat} (h : 0 < n) : (numD n).head? ≠ some 48 := by
  induction n using Nat.strongRecOn with
  | _ n ih =>
    by_cases h1 : n < 10
    · rw [numD_lt h1]; simp; omega
    · rw [numD_step (by omega)]
      have := ih (n / 10) (by omega) (by omega)
      have ne := numD_ne (n / 10)
      cases e : numD (n / 10) with
      | nil => exact (ne e).elim
      | cons c r => rw [e] at this; simpa using this
theorem numD_zero : numD 0 = [48] := numD_lt (by decide)
end JP

set_option linter.all false
set_option maxRecDepth 100000
namespace JP
theorem split_at {α : Type} {xs : List α} {k : Nat} {x : α} (h : xs[k]? = some x) : ∃ pre post, xs = pre ++ x :: post ∧ pre.length = k := by
  obtain ⟨hk, e⟩ := List.getElem?_eq_some_iff.mp h
  refine ⟨xs.take k, xs.drop (k + 1), ?_, by simp; omega⟩
  rw [← e, ← List.drop_eq_getElem_cons hk, List.take_append_drop]
theorem take_pre {α : Type} {pre post : List α} {x : α} : (pre ++ x :: post).take pre.length = pre ∧ (pre ++ x :: post).take (pre.length + 1) = pre ++ [x] := by
  constructor
  · simp
  · rw [List.take_append]; simp [List.take_of_length_le]
/-- a for over a list, by what was walked -/
theorem res_forM {α : Type} {b : BX} {it : AX} {s t : SX} {env : Ev} {Q : Ou → Prop} (c : α → PV) (xs : List α) (I : List α → Ev → Prop) (hit : it env = .ok (xs.map c)) (h0 : I [] env)
    (hs : ∀ pre x post e, xs = pre ++ x :: post → I pre e → ∃ e1, b (c x) e = .ok e1 ∧ Res (s e1) (fun o => After o (I (pre ++ [x])) (fun e => Res (t e) Q) Q))
    (hk : ∀ e, I xs e → Res (t e) Q) : Res (seqO (sFor b it s env) t) Q := by
  refine res_for (fun k e => I (xs.take k) e) hit h0 (fun k p e hp hi => ?_) (fun e hi => hk e (by simpa using hi))
  rw [List.getElem?_map, Option.map_eq_some_iff] at hp
  obtain ⟨x, hx, rfl⟩ := hp
  obtain ⟨pre, post, e1, e2⟩ := split_at hx
  subst e2
  have := hs pre x post e e1 (by rw [e1, take_pre.1] at hi; exact hi)
  rw [e1, take_pre.2]
  exact this
/-- enumerate -/
theorem enumP_map {α : Type} (c : α → PV) : ∀ (xs : List α) (n : Nat), enumP n (xs.map c) = (xs.zipIdx n).map fun q => .tup [.int (q.2 : Nat), c q.1]
  | [], n => rfl
  | x :: xs, n => by simp [enumP, enumP_map c xs (n + 1)]
theorem zipIdx_pre {α : Type} {xs : List α} {pre post : List (α × Nat)} {q : α × Nat} (h : xs.zipIdx = pre ++ q :: post) : ∃ p r, xs = p ++ q.1 :: r ∧ q.2 = p.length ∧ pre = p.zipIdx ∧ pre.map (·.1) = p := by
  have hx : xs = xs.zipIdx.map (·.1) := by simp
  have hq : xs.zipIdx[pre.length]? = some q := by rw [h]; simp
  rw [List.getElem?_zipIdx] at hq
  cases e : xs[pre.length]? with
  | none => rw [e] at hq; cases hq
  | some x =>
    rw [e] at hq
    simp at hq
    obtain ⟨p, r, e1, e2⟩ := split_at e
    have hp : pre = p.zipIdx := by
      have : xs.zipIdx.take pre.length = pre := by rw [h]; simp
      rw [← this, e1, List.zipIdx_append]
      simp [← e2]
    refine ⟨p, r, ?_, ?_, hp, by rw [hp]; simp⟩
    · rw [← hq]; exact e1
    · rw [← hq]; exact e2.symm
theorem res_forE {α : Type} {b : BX} {it : AX} {s t : SX} {env : Ev} {Q : Ou → Prop} (c : α → PV) (xs : List α) (I : List α → Ev → Prop) (hit : it env = .ok (enumP 0 (xs.map c))) (h0 : I [] env)
    (hs : ∀ pre x post e, xs = pre ++ x :: post → I pre e → ∃ e1, b (.tup [.int (pre.length : Nat), c x]) e = .ok e1 ∧ Res (s e1) (fun o => After o (I (pre ++ [x])) (fun e => Res (t e) Q) Q))
    (hk : ∀ e, I xs e → Res (t e) Q) : Res (seqO (sFor b it s env) t) Q := by
  rw [enumP_map] at hit
  refine res_forM _ xs.zipIdx (fun pre e => I (pre.map (·.1)) e) hit h0 (fun pre q post e h hi => ?_) (fun e hi => hk e (by simpa using hi))
  obtain ⟨p, r, e1, e2, e3, e4⟩ := zipIdx_pre h
  have := hs p q.1 r e e1 (by rw [← e4]; exact hi)
  rw [e2, List.map_append, e4]
  exact this
/-- range -/
theorem res_forR {b : BX} {it : AX} {s t : SX} {env : Ev} {Q : Ou → Prop} (lo : Int) (n : Nat) (I : Nat → Ev → Prop) (hit : it env = .ok (rngP lo n)) (h0 : I 0 env)
    (hs : ∀ k e, k < n → I k e → ∃ e1, b (.int (lo + (k : Nat))) e = .ok e1 ∧ Res (s e1) (fun o => After o (I (k + 1)) (fun e => Res (t e) Q) Q))
    (hk : ∀ e, I n e → Res (t e) Q) : Res (seqO (sFor b it s env) t) Q := by
  refine res_for I hit h0 (fun k p e hp hi => ?_) (fun e hi => hk e (by simpa using hi))
  obtain ⟨h, rfl⟩ := rngP_at hp
  exact hs k e h hi
/-- comprehensions -/
theorem compF_of {α : Type} {b : BX} {t f : EX} {env : Ev} (c : α → PV) (q : α → Bool) (g : α → PV) : ∀ (xs : List α), (∀ x ∈ xs, ∃ e, b (c x) env = .ok e ∧ t e = .ok (.bl (q x)) ∧ (q x = true → f e = .ok (g x))) → compF b t f (xs.map c) env = .ok ((xs.filter q).map g)
  | [], _ => rfl
  | x :: xs, h => by
    obtain ⟨e, h1, h2, h3⟩ := h x List.mem_cons_self
    have ih := compF_of c q g xs fun y hy => h y (List.mem_cons_of_mem _ hy)
    rw [List.map_cons]
    unfold compF
    rw [h1]
    dsimp only
    rw [h2]
    cases hq : q x with
    | false => simp [hq, ih]
    | true => simp [hq, ih, h3 hq]
theorem compK_of {α : Type} {is : List Nat} {b : BX} {t f : EX} {env : Ev} (c : α → PV) (q : α → Bool) (g : α → PV) (xs : List α) (hl : xs.length ≤ 1000000) (h : ∀ x ∈ xs, ∃ e, b (c x) (wipeE env is) = .ok e ∧ t e = .ok (.bl (q x)) ∧ (q x = true → f e = .ok (g x))) : compK is b t f env (xs.map c) = .ok ((xs.filter q).map g) := by
  unfold compK
  rw [if_pos (by simpa using hl)]
  exact compF_of c q g xs h
theorem compK_all {α : Type} {is : List Nat} {b : BX} {t f : EX} {env : Ev} (c g : α → PV) (xs : List α) (hl : xs.length ≤ 1000000) (h : ∀ x ∈ xs, ∃ e, b (c x) (wipeE env is) = .ok e ∧ t e = .ok (.bl true) ∧ f e = .ok (g x)) : compK is b t f env (xs.map c) = .ok (xs.map g) := by
  have := compK_of (is := is) (b := b) (t := t) (f := f) (env := env) c (fun _ => true) g xs hl fun x hx => by
    obtain ⟨e, h1, h2, h3⟩ := h x hx
    exact ⟨e, h1, h2, fun _ => h3⟩
  rw [this]
  congr 2
  exact List.filter_eq_self.mpr fun _ _ => rfl
@[simp] theorem int_beq (a b : Int) : (a == b) = decide (a = b) := by
  rw [Bool.eq_iff_iff]; simp
@[simp] theorem str_beq (a b : List Nat) : (a == b) = decide (a = b) := by
  rw [Bool.eq_iff_iff]; simp
end JP
namespace JP
theorem eqPs_map {α : Type} [DecidableEq α] (f : α → PV) (h : ∀ a b, eqP (f a) (f b) = decide (a = b)) : ∀ xs ys : List α, eqPs (xs.map f) (ys.map f) = decide (xs = ys)
  | [], [] => by simp
  | [], y :: ys => by simp
  | x :: xs, [] => by simp
  | x :: xs, y :: ys => by simp [h, eqPs_map f h xs ys]
theorem datPs_map {α : Type} (f : α → PV) (h : ∀ a, datP (f a) = true) : ∀ xs : List α, datPs (xs.map f) = true
  | [] => by simp
  | x :: xs => by simp [h, datPs_map f h xs]
theorem depPs_map {α : Type} (f : α → PV) (n : Nat) (h : ∀ a, depP (f a) ≤ n) : ∀ xs : List α, depPs (xs.map f) ≤ n
  | [] => by simp
  | x :: xs => by
    have := h x
    have := depPs_map f n h xs
    simp; omega
theorem any_map {α : Type} [DecidableEq α] (f : α → PV) (h : ∀ a b, eqP (f a) (f b) = decide (a = b)) (a : α) : ∀ xs : List α, (xs.map f).any (fun z => eqP z (f a)) = decide (a ∈ xs)
  | [] => by simp
  | x :: xs => by
    rw [List.map_cons, List.any_cons, any_map f h a xs, h]
    by_cases e : x = a
    · subst e; simp
    · have : ¬ a = x := fun z => e z.symm
      simp [e, this]
@[simp] theorem datPs_strs (xs : List (List Nat)) : datPs (xs.map .str) = true := datPs_map _ (by simp) xs
@[simp] theorem depPs_strs (xs : List (List Nat)) : depPs (xs.map .str) = 0 := Nat.le_zero.mp (depPs_map _ 0 (by simp) xs)
@[simp] theorem datPs_ints (xs : List Int) : datPs (xs.map .int) = true := datPs_map _ (by simp) xs
@[simp] theorem depPs_ints (xs : List Int) : depPs (xs.map .int) = 0 := Nat.le_zero.mp (depPs_map _ 0 (by simp) xs)
@[simp] theorem eqPs_strs (xs ys : List (List Nat)) : eqPs (xs.map .str) (ys.map .str) = decide (xs = ys) := eqPs_map _ (by simp) xs ys
@[simp] theorem eqPs_ints (xs ys : List Int) : eqPs (xs.map .int) (ys.map .int) = decide (xs = ys) := eqPs_map _ (by simp) xs ys
@[simp] theorem any_strs (xs : List (List Nat)) (a : List Nat) : (xs.map .str).any (fun z => eqP z (.str a)) = decide (a ∈ xs) := by
  rw [any_map PV.str (by simp) a xs]; congr
@[simp] theorem any_ints (xs : List Int) (a : Int) : (xs.map .int).any (fun z => eqP z (.int a)) = decide (a ∈ xs) := by
  rw [any_map PV.int (by simp) a xs]
theorem nodup_le {α : Type} [DecidableEq α] : ∀ (l m : List α), l.Nodup → (∀ a ∈ l, a ∈ m) → l.length ≤ m.length
  | [], m, _, _ => by simp
  | a :: l, m, hn, h => by
    have ha := h a List.mem_cons_self
    have := nodup_le l (m.erase a) (List.nodup_cons.mp hn).2 (fun b hb => by
      have : b ≠ a := fun e => (List.nodup_cons.mp hn).1 (e ▸ hb)
      exact (List.mem_erase_of_ne this).mpr (h b (List.mem_cons_of_mem _ hb)))
    rw [List.length_erase_of_mem ha] at this
    have := List.length_pos_of_mem ha
    simp; omega
@[simp] theorem cutN_to {α : Type} (xs : List α) (k : Nat) : cutN xs none (some (k : Int)) = xs.take k := by
  have : ¬ ((k : Int) < 0) := by omega
  simp [cutN, loI, hiI, clampI, this]
@[simp] theorem cutN_from {α : Type} (xs : List α) (k : Nat) : cutN xs (some (k : Int)) none = xs.drop k := by
  have : ¬ ((k : Int) < 0) := by omega
  simp [cutN, loI, hiI, clampI, this]
  by_cases h : k ≤ xs.length
  · rw [Nat.min_eq_left h, List.take_of_length_le (by simp)]
  · rw [Nat.min_eq_right (by omega), List.drop_of_length_le (by omega), List.drop_of_length_le (by omega)]; simp
@[simp] theorem cutN_lit {α : Type} (xs : List α) (n : Nat) : cutN xs none (some (no_index (@OfNat.ofNat Int n _))) = xs.take n := cutN_to xs n
@[simp] theorem cutN_litf {α : Type} (xs : List α) (n : Nat) : cutN xs (some (no_index (@OfNat.ofNat Int n _))) none = xs.drop n := cutN_from xs n
@[simp] theorem atN_last {α : Type} (xs : List α) (x : α) : atN (xs ++ [x]) (-1) = some x := by
  have h : (-1 + ((xs ++ [x]).length : Int)).toNat = xs.length := by simp; omega
  unfold atN
  rw [if_neg (by decide), if_pos (by simp; omega), h]
  simp
@[simp] theorem ixP_last {n : Nat} : ixP (n + 1) (-1) = some n := by
  unfold ixP
  rw [if_neg (by decide), if_pos (by omega)]
  congr 1
  omega
@[simp] theorem nat_int_eq (a b : Nat) : ((a : Int) = (b : Int)) = (a = b) := propext ⟨fun h => by omega, fun h => by omega⟩
end JP

set_option Elab.async false
set_option linter.all false
set_option maxRecDepth 100000
set_option maxHeartbeats 4000000
namespace JP
open PySem L2
/-- a thing changes as its fact lets it -/
theorem Stp.within {W : Wd} {H : Hp} (h : Hold W H) {a : Addr} {k k' : List (List Key × V)} {f : HO → Prop} (w : W a = some f) (e : H a = some (.dT k)) (fo : f (.dT k)) (fo' : f (.dT k')) (nl : Nl f) : Stp W H W (upd H a (.dT k')) where
  le := Wle.refl W
  ho := ⟨fun b g q => by
    by_cases hb : b = a
    · subst hb
      rw [w] at q; cases q
      exact ⟨_, upd_same, fo'⟩
    · rw [upd_ne hb]
      exact h.there b g q, h.gd⟩
  kp := fun b u q z => by
    by_cases hb : b = a
    · subst hb
      rw [e] at q; cases q
      rcases z f w with z | ⟨u, _, rfl⟩
      · rw [upd_same, z _ _ fo fo']
      · rcases fo with fo | ⟨od, fo⟩
        · rcases fo' with fo' | ⟨od, fo'⟩
          · rw [upd_same, fo, fo']
          · cases fo'
        · cases fo
    · rw [upd_ne hb]; exact q
  nw := fun b g q => .inl q
  lf := fun b n od u q z => by
    rw [upd_ne fun y => by rw [y, e] at z; cases z]
    exact z
  lk := fun _ b n q => upd_ne fun y => by
    rw [y, w] at q
    exact nl n (Option.some.inj q)
  ll := fun _ _ _ q => q
section
variable {X : Cx} {Y : Cy} {C : Addr} {ns : List String} {pos pos' cpos p1 : Pos} {x : Str}
end
theorem MemOk.put {O : ObS} {p : PV} {kvs : List (PV × PV)} {ks : List (List Key × V)} {l r : List Nat} {b : Bool} (m : MemOk O p kvs ks) (hl : l ∈ txKs kvs) (hr : r ∈ txKs kvs) (hm : O.mf p l r = some b) (hn : ([.inr (tx l), .inr (tx r)] : List Key) ∉ ks.map Prod.fst) : MemOk O p kvs (ks ++ [([.inr (tx l), .inr (tx r)], .bl b)]) := by
  obtain ⟨m1, m2, m3⟩ := m
  refine ⟨m1, ?_, fun k v h => ?_⟩
  · rw [List.map_append, List.nodup_append]
    refine ⟨m2, by simp, fun a ha c hc => ?_⟩
    simp at hc
    subst hc
    exact fun z => hn (z ▸ ha)
  · rcases List.mem_append.mp h with h | h
    · exact m3 k v h
    · simp at h
      obtain ⟨h1, h2⟩ := h
      exact ⟨l, r, b, h1, hl, hr, hm, h2⟩
theorem MemOk.len {O : ObS} {p : PV} {kvs : List (PV × PV)} {ks : List (List Key × V)} (m : MemOk O p kvs ks) : ks.length < 1000000 := by
  obtain ⟨m1, m2, m3⟩ := m
  have hk : (txKs kvs).length ≤ 900 := Nat.le_trans (List.length_filterMap_le _ _) m1
  have h2 := nodup_le (ks.map Prod.fst) ((txKs kvs).flatMap fun l => (txKs kvs).map fun r => ([.inr (tx l), .inr (tx r)] : List Key)) m2 (fun a ha => by
    obtain ⟨q, h1, h2⟩ := List.mem_map.mp ha
    obtain ⟨l, r, b, e, hl, hr, _⟩ := m3 q.1 q.2 h1
    rw [← h2, e]
    exact List.mem_flatMap.mpr ⟨l, hl, List.mem_map.mpr ⟨r, hr, rfl⟩⟩)
  have h3 : ((txKs kvs).flatMap fun l => (txKs kvs).map fun r => ([.inr (tx l), .inr (tx r)] : List Key)).length = (txKs kvs).length * (txKs kvs).length := by
    rw [List.length_flatMap]
    simp only [List.length_map]
    have cs : ∀ (c : Nat) (L : List (List Nat)), (L.map fun _ => c).sum = L.length * c := fun c L => by
      induction L with
      | nil => simp
      | cons a L ih => simp [ih, Nat.succ_mul]; omega
    exact cs _ _
  have h4 : (txKs kvs).length * (txKs kvs).length ≤ 900 * 900 := Nat.mul_le_mul hk hk
  rw [List.length_map] at h2
  omega
section
variable {X : Cx} {Y : Cy} {C : Addr} {ns : List String} {x1 x2 x3 : Str}
/-- what a name of a value holds -/
theorem EnvR.val {W : Wd} {H : Hp} {σ : L2.St} {env : Ev} {i : Nat} {p : PV} (E : EnvR Y W H σ env) (e : env[i]? = some (.v p)) : ∃ v, σ[i]? = some (some v) ∧ Rep Y.O W p v := by
  obtain ⟨x, b, e1, _, v, e2, r⟩ := E.slot e
  exact ⟨v, by rw [e1, e2], r⟩
abbrev tPr (i j : Nat) : TE := tTup (tCons (tVar i) (tCons (tVar j) tNil))
end
end JP

set_option Elab.async false
set_option linter.all false
set_option maxRecDepth 100000
set_option maxHeartbeats 4000000
namespace JP
open PySem L2
/-- a class of errors that is asked of, by its name in the text -/
structure XT (mg : Str → Option Value) (O : ObS) (h : String) (x : Str) (D : Addr) : Prop where
  mg : mg x = some (.ref D)
  is : XIs O h (.ref D)
section
variable {X : Cx} {Y : Cy} {a o e e2 : Expr} {f g k : EX} {pos p pb apos cpos : Pos}
end
end JP

set_option linter.all false
set_option maxRecDepth 100000
namespace JP
/-- max(list, default=d) -/
def pMaxD (p d : PV) : Option PV := (itsP p).bind fun l => (asI l).map fun ns => match maxL ns with
  | some m => .int m
  | none => d
@[simp] theorem pMaxD_0 (l : List PV) (d : PV) : pMaxD (.lst l) d = (asI l).map fun ns => match maxL ns with
  | some m => .int m
  | none => d := rfl
/-- min(list, default=d) -/
def pMinD (p d : PV) : Option PV := (itsP p).bind fun l => (asI l).map fun ns => match minL ns with
  | some m => .int m
  | none => d
@[simp] theorem pMinD_0 (l : List PV) (d : PV) : pMinD (.lst l) d = (asI l).map fun ns => match minL ns with
  | some m => .int m
  | none => d := rfl
/-- list.index -/
def isLs : PV → Bool
  | .lst _ => true
  | _ => false
@[simp] theorem isLs_0 (xs : List PV) : isLs (.lst xs) = true := rfl
def pIdxL : PV → PV → Option PV
  | .lst qs, p => if shp p && shp (.lst qs) then (qs.findIdx? fun z => eqP z p).map fun j => .int (j : Nat) else none
  | _, _ => none
@[simp] theorem pIdxL_0 (qs : List PV) (p : PV) : pIdxL (.lst qs) p = (if shp p && shp (.lst qs) then (qs.findIdx? fun z => eqP z p).map fun j => .int (j : Nat) else none) := rfl
def eIdxL (f g : EX) : EX := fun env => (f env).bind fun x => if isLs x then (g env).bind fun y => ofO (pIdxL x y) else .bad
@[simp] theorem eIdxL_app (f g : EX) (env : Ev) : eIdxL f g env = (f env).bind fun x => if isLs x then (g env).bind fun y => ofO (pIdxL x y) else .bad := rfl
/-- list.insert -/
def insK (i : Nat) (xs : List PV) (n p : PV) (env : Ev) : Ou := match n with
  | .int k => if 0 ≤ k ∧ k < 1000000 ∧ xs.length < 1000000 then .nx (env.set i (.o (xs.take k.toNat ++ [p] ++ xs.drop k.toNat))) else .bad
  | _ => .bad
@[simp] theorem insK_0 (i : Nat) (xs : List PV) (k : Int) (p : PV) (env : Ev) : insK i xs (.int k) p env = (if 0 ≤ k ∧ k < 1000000 ∧ xs.length < 1000000 then .nx (env.set i (.o (xs.take k.toNat ++ [p] ++ xs.drop k.toNat))) else .bad) := rfl
def sIns (i : Nat) (f g : EX) : SX := fun env => match env[i]? with
  | some (.o xs) => thenO (f env) env fun n => thenO (g env) env fun p => insK i xs n p env
  | _ => .bad
@[simp] theorem sIns_app (i : Nat) (f g : EX) (env : Ev) : sIns i f g env = (match env[i]? with
  | some (.o xs) => thenO (f env) env fun n => thenO (g env) env fun p => insK i xs n p env
  | _ => .bad) := rfl
/-- list(range(n)) -/
def lRng : PV → Option (List PV)
  | .int n => if -1000000 ≤ n ∧ n ≤ 1000000 then some ((List.range n.toNat).map fun i => .int (i : Nat)) else none
  | _ => none
@[simp] theorem lRng_0 (n : Int) : lRng (.int n) = (if -1000000 ≤ n ∧ n ≤ 1000000 then some ((List.range n.toNat).map fun i => .int (i : Nat)) else none) := rfl
/-- f(..).clear() of a new list -/
def eClr (f : AX) : EX := fun env => (f env).bind fun _ => .ok .non
@[simp] theorem eClr_app (f : AX) (env : Ev) : eClr f env = (f env).bind fun _ => .ok .non := rfl
end JP

set_option Elab.async false
set_option linter.all false
set_option maxRecDepth 100000
set_option maxHeartbeats 4000000
namespace JP
open PySem L2
section
variable {X : Cx} {Y : Cy} {o e d : Expr} {f g : EX} {pos apos p kpos : Pos}
def rMaxDf (K : PySem.W.Frag) : List V → List V → Hp → VK → Prop := fun vs zs H Q => ∃ (a : Addr) (ns : List Int) (y : V), vs = [V.ref a] ∧ zs = [y] ∧ SqL K H a (ns.map V.int) ∧ (ns = [] → Q y H) ∧ ∀ m ∈ ns, (∀ b ∈ ns, b ≤ m) → Q (.int m) H
end
end JP

set_option Elab.async false
set_option linter.all false
set_option maxRecDepth 100000
set_option maxHeartbeats 4000000
namespace JP
open PySem L2
section
variable {X : Cx} {Y : Cy} {o e d : Expr} {f g : EX} {pos apos cpos p kpos : Pos}
def rMinDf (K : PySem.W.Frag) : List V → List V → Hp → VK → Prop := fun vs zs H Q => ∃ (a : Addr) (ns : List Int) (y : V), vs = [V.ref a] ∧ zs = [y] ∧ SqL K H a (ns.map V.int) ∧ (ns = [] → Q y H) ∧ ∀ m ∈ ns, (∀ b ∈ ns, m ≤ b) → Q (.int m) H
def rInsert : V → List V → Hp → VK → Prop := fun x vs H Q => ∃ (l : Addr) (xs : List V) (i : Int) (y : V), x = .ref l ∧ vs = [.int i, y] ∧ H l = some (.lst xs) ∧ xs.length < sizeLine ∧ 0 ≤ i ∧ i < 2 ^ 63 ∧
    Q .non (upd H l (.lst (xs.take i.toNat ++ [y] ++ xs.drop i.toNat)))
end
end JP

set_option linter.all false
namespace JP
/-- a, b, c = a list -/
def bUnl (bs : List BX) : BX := fun p env => match p with
  | .lst ps => bindAll bs ps env
  | _ => .bad
@[simp] theorem bUnl_lst (bs : List BX) (ps : List PV) (env : Ev) : bUnl bs (.lst ps) env = bindAll bs ps env := rfl
def insN (c : Nat) : List Nat → List Nat
  | [] => [c]
  | d :: r => if c ≤ d then c :: d :: r else d :: insN c r
def srtN : List Nat → List Nat
  | [] => []
  | c :: r => insN c (srtN r)
def lSrtS : PV → Option (List PV)
  | .str s => if s.length < 64 then some ((srtN s).map fun c => .str [c]) else none
  | _ => none
@[simp] theorem lSrtS_0 (s : List Nat) : lSrtS (.str s) = if s.length < 64 then some ((srtN s).map fun c => .str [c]) else none := rfl
end JP

set_option Elab.async false
set_option linter.all false
set_option maxRecDepth 100000
namespace JP
open PySem L2
section
variable {X : Cx} {Y : Cy} {tgs : List Expr} {bs : List BX} {pos : Pos} {kk : Nat}
end
end JP

set_option Elab.async false
set_option linter.all false
set_option maxRecDepth 100000
namespace JP
open PySem L2 PyProof.Rows
def oneS (c : Nat) : Str := ⟨#[c]⟩
section
variable {X : Cx} {Y : Cy} {e : Expr} {f : EX} {pos p : Pos}
end
section
variable {X : Cx} {Y : Cy} {p pos : Pos} {x : Str} {k : Nat} {f : Addr} {fd : FuncData} {ps : List Str} {sp : Sp} {CX : CXT} {E : L2.St → XK}
end
end JP

set_option linter.all false
namespace JP
def isLk : Sl → Bool
  | .k _ => true
  | .kd _ _ => true
  | _ => false
@[simp] theorem isLk_k (xs : List PV) : isLk (.k xs) = true := rfl
@[simp] theorem isLk_kd (t : Bool) (kvs : List (PV × PV)) : isLk (.kd t kvs) = true := rfl
/-- the slot as it was ahead of the lock -/
def unlk (i : Nat) (s0 : Sl) (k : Ev → Ou) (e : Ev) : Ou := match e[i]? with
  | some s => if isLk s then k (e.set i s0) else .bad
  | none => .bad
def unS (i : Nat) (s0 : Sl) : Ou → Ou
  | .nx e => unlk i s0 .nx e
  | .bk e => unlk i s0 .bk e
  | .ct e => unlk i s0 .ct e
  | .rt p => .rt p
  | .rf p => .rf p
  | .rs p S => .rs p S
  | .rg p S => .rg p S
  | .ex _ _ => .bad
  | .bad => .bad
/-- a statement within which the list of one's own in slot i is only read -/
def sLkL (i : Nat) (s : SX) : SX := fun env => match env[i]? with
  | some (.o xs) => unS i (.o xs) (s (env.set i (.k xs)))
  | _ => .bad
/-- .. the dict in slot i -/
def sLkD (i : Nat) (s : SX) : SX := fun env => match env[i]? with
  | some (.v (.dct t kvs)) => unS i (.v (.dct t kvs)) (s (env.set i (.kd t kvs)))
  | some (.b (.dct t kvs)) => unS i (.b (.dct t kvs)) (s (env.set i (.kd t kvs)))
  | _ => .bad
/-- the keys of the dict that is walked -/
def lKd (i : Nat) : AX := fun env => match env[i]? with
  | some (.kd _ kvs) => .ok (kvs.map Prod.fst)
  | _ => .bad
@[simp] theorem lKd_app (i : Nat) (env : Ev) : lKd i env = (match env[i]? with
  | some (.kd _ kvs) => .ok (kvs.map Prod.fst)
  | _ => .bad) := rfl
end JP

set_option Elab.async false
set_option linter.all false
set_option maxRecDepth 100000
set_option maxHeartbeats 4000000
namespace JP
open PySem L2
section
variable {W0 W : Wd} {H0 H : Hp} {d : Addr} {o o' : HO}
/-- a fact of what is locked -/
def LFx (f : HO → Prop) (o : HO) : Prop := Fx f ∨ ∃ n, f = LocF n ∧ ∃ od u, o = .frz od u
def lkW (W0 W : Wd) (d : Addr) : Wd := fun b => if b = d then W d else W0 b
end
/-- the context while d is locked as o' -/
def Cy.lkd (Y : Cy) (W0 : Wd) (H0 : Hp) (h0 : Hold W0 H0) (la : Nat → Option Addr) (hla : ∀ j a, la j = some a → ∃ o, H0 a = some o ∧ ((∃ vs, o = .lst vs) ∨ ∃ od u, o = .frz od u)) : Cy := { Y with W0 := W0, H0 := H0, h0 := h0, la := la, hla := hla, Wx := fun _ _ _ _ => False }
theorem FsR.h0 {O : ObS} {W : Wd} {H H0 H1 : Hp} : ∀ {fs : List (String × FV)} {vs : List (Str × V)} {b : List Addr}, FsR O W H H0 fs vs b → (∀ a ∈ b, H1 a = none) → FsR O W H H1 fs vs b
  | [], _, _, h, _ => h
  | (n, .v p) :: r, _, _, h, k => by
    obtain ⟨v, t, e, h1, h⟩ := h
    exact ⟨v, t, e, h1, h.h0 k⟩
  | (n, .d dt kvs) :: r, _, _, h, k => by
    obtain ⟨a, t, b', e1, e2, h1, h2, h3, h⟩ := h
    subst e2
    exact ⟨a, t, b', e1, rfl, h1, h2, k a List.mem_cons_self, h.h0 fun x hx => k x (List.mem_cons_of_mem _ hx)⟩
/-- what may be locked: o becomes o' -/
def LkO (W : Wd) (H : Hp) (H0 : Hp) (W0 : Wd) (nb : Bool) (d : Addr) (o o' : HO) : Prop :=
  (∃ vs, o = .lst vs ∧ o' = o ∧ W d = none ∧ H0 d = none ∧ nb = true) ∨ (∃ u, IsDk u ∧ ((o = u ∧ ∃ od, o' = .frz od u) ∨ ∃ od, o = .frz od u ∧ o' = o) ∧ (W d = some (TolF u) ∨ (W d = none ∧ W0 d = none ∧ H0 d = some o)))
theorem LkO.nt {W : Wd} {H H0 : Hp} {W0 : Wd} {nb : Bool} {d : Addr} {o o' : HO} (h : LkO W H H0 W0 nb d o o') : ∀ vs, o' ≠ .tup vs := by
  intro vs z
  rcases h with ⟨ws, h1, h2, _⟩ | ⟨u, _, ⟨_, od, h⟩ | ⟨od, h1, h2⟩, _⟩
  · rw [z, h1] at h2; cases h2
  · rw [z] at h; cases h
  · rw [z, h1] at h2; cases h2
theorem LkO.hf {W : Wd} {H H0 : Hp} {W0 : Wd} {nb : Bool} {d : Addr} {o o' : HO} (h : LkO W H H0 W0 nb d o o') : ∀ f, W d = some f → f o' ∧ f o ∧ Fx f := by
  intro f e
  rcases h with ⟨ws, h1, h2, h3, _⟩ | ⟨u, hu, h1, h2 | ⟨h2, _⟩⟩
  · rw [h3] at e; cases e
  · rw [h2] at e
    cases e
    refine ⟨?_, ?_, .inr ⟨u, hu, rfl⟩⟩
    · rcases h1 with ⟨h1, od, h3⟩ | ⟨od, h1, h3⟩
      · exact .inr ⟨od, h3⟩
      · exact .inr ⟨od, by rw [h3]; exact h1⟩
    · rcases h1 with ⟨h1, od, h3⟩ | ⟨od, h1, h3⟩
      · exact .inl h1
      · exact .inr ⟨od, h1⟩
  · rw [h2] at e; cases e
theorem LkO.hl {W : Wd} {H H0 : Hp} {W0 : Wd} {nb : Bool} {d : Addr} {o o' : HO} (h : LkO W H H0 W0 nb d o o') : ∀ f, W d = some f → f o' ∧ f o ∧ LFx f o' := fun f e => let ⟨a, b, c⟩ := h.hf f e; ⟨a, b, .inl c⟩
theorem LkO.nl {W : Wd} {H H0 : Hp} {W0 : Wd} {nb : Bool} {d : Addr} {o o' : HO} (h : LkO W H H0 W0 nb d o o') : ∀ n, W d ≠ some (LocF n) := fun n e => LocF.noFx (h.hf _ e).2.2
theorem LkO.dict {W : Wd} {H H0 : Hp} {W0 : Wd} {nb : Bool} {d : Addr} {o o' u : HO} (h : LkO W H H0 W0 nb d o o') (hu : IsDk u) (t : TolF u o) : ∃ od, o' = .frz od u := by
  have nf : ∀ {u : HO}, IsDk u → ∀ od w, u ≠ .frz od w := fun hu od w z => by rcases hu with ⟨ks, e⟩ | ⟨ks, e⟩ <;> rw [e] at z <;> cases z
  rcases h with ⟨vs, h1, _⟩ | ⟨u', hu', ⟨h1, od, h2⟩ | ⟨od, h1, h2⟩, _⟩
  · rw [h1] at t
    rcases t with t | ⟨od, t⟩
    · rcases hu with ⟨ks, e⟩ | ⟨ks, e⟩ <;> rw [e] at t <;> cases t
    · cases t
  · rcases t with t | ⟨od', t⟩
    · exact ⟨od, by rw [h2, ← h1, t]⟩
    · exact (nf hu' od' u (by rw [← h1]; exact t)).elim
  · rcases t with t | ⟨od', t⟩
    · exact (nf hu od u' (by rw [← t]; exact h1)).elim
    · exact ⟨od', by rw [h2]; exact t⟩
theorem LkO.frz {W : Wd} {H H0 : Hp} {W0 : Wd} {nb : Bool} {d : Addr} {od : Obj} {u o' : HO} (h : LkO W H H0 W0 nb d (.frz od u) o') : o' = .frz od u := by
  rcases h with ⟨ws, h1, h2, _⟩ | ⟨u', hu', ⟨h1, od', h2⟩ | ⟨od', h1, h2⟩, _⟩
  · exact h2
  · rcases hu' with ⟨ks, e⟩ | ⟨ks, e⟩ <;> rw [e] at h1 <;> cases h1
  · exact h2
section
variable {Y : Cy} {W : Wd} {H : Hp} {σ : St} {env : Ev}
/-- the context in which d is locked -/
theorem lk_hla {Y : Cy} {d : Addr} {o' : HO} {i : Nat} (ho : (∃ vs, o' = .lst vs) ∨ ∃ od u, o' = .frz od u) : ∀ j a, (fun j => if j = i then some d else Y.la j) j = some a → ∃ o, upd Y.H0 d o' a = some o ∧ ((∃ vs, o = .lst vs) ∨ ∃ od u, o = .frz od u) := by
  intro j a e
  by_cases z : a = d
  · subst z
    exact ⟨o', upd_same, ho⟩
  · rw [upd_ne z]
    dsimp only at e
    by_cases hj : j = i
    · rw [if_pos hj] at e
      exact (z (Option.some.inj e).symm).elim
    · rw [if_neg hj] at e
      exact Y.hla j a e
theorem LkO.lk {W : Wd} {H H0 : Hp} {W0 : Wd} {nb : Bool} {d : Addr} {o o' : HO} (h : LkO W H H0 W0 nb d o o') : (∃ vs, o' = .lst vs) ∨ ∃ od u, o' = .frz od u := by
  rcases h with ⟨ws, h1, h2, _⟩ | ⟨u, _, ⟨_, od, h⟩ | ⟨od, h1, h2⟩, _⟩
  · exact .inl ⟨ws, by rw [h2, h1]⟩
  · exact .inr ⟨od, u, h⟩
  · exact .inr ⟨od, u, by rw [h2, h1]⟩
def lkY (Y : Cy) (W : Wd) (d : Addr) (o' : HO) (i : Nat) (h : Hold (lkW Y.W0 W d) (upd Y.H0 d o')) (ho : (∃ vs, o' = .lst vs) ∨ ∃ od u, o' = .frz od u) : Cy := Y.lkd (lkW Y.W0 W d) (upd Y.H0 d o') h (fun j => if j = i then some d else Y.la j) (lk_hla ho)
end

section
variable {X : Cx} {Y : Cy} {st : Stmt} {s : SX}
/-- the statement in any locked context -/
def tAny (Y : Cy) (s : SX) : TS := fun D σ H => ∃ W0 H0 h0 la hla, tS (Y.lkd W0 H0 h0 la hla) s D σ H
end

theorem RepK.at {O : ObS} {W : Wd} : ∀ {kvs : List (PV × PV)} {ks : List (Key × V)} {i : Nat} {k : Key} {v : V}, RepK O W kvs ks → ks[i]? = some (k, v) → ∃ p, (kvs.map Prod.fst)[i]? = some p ∧ kRep p k
  | [], _, i, k, v, h, e => by rw [RepK.nil_iff.mp h] at e; simp at e
  | (q, z') :: kvs, _, i, k, v, h, e => by
    obtain ⟨k', v', r, e', a1, a2, a3⟩ := RepK.cons_iff.mp h
    subst e'
    cases i with
    | zero =>
      simp at e
      exact ⟨q, rfl, by rw [← e.1]; exact a1⟩
    | succ i =>
      obtain ⟨p, h1, h2⟩ := RepK.at a3 (i := i) (by simpa using e)
      exact ⟨p, by simpa using h1, h2⟩
theorem RepT.at {O : ObS} {W : Wd} : ∀ {kvs : List (PV × PV)} {ks : List (List Key × V)} {i : Nat} {k : List Key} {v : V}, RepT O W kvs ks → ks[i]? = some (k, v) → ∃ p, (kvs.map Prod.fst)[i]? = some p ∧ tRep p k
  | [], _, i, k, v, h, e => by rw [RepT.nil_iff.mp h] at e; simp at e
  | (q, z') :: kvs, _, i, k, v, h, e => by
    obtain ⟨k', v', r, e', a1, a2, a3⟩ := RepT.cons_iff.mp h
    subst e'
    cases i with
    | zero =>
      simp at e
      exact ⟨q, rfl, by rw [← e.1]; exact a1⟩
    | succ i =>
      obtain ⟨p, h1, h2⟩ := RepT.at a3 (i := i) (by simpa using e)
      exact ⟨p, by simpa using h1, h2⟩
section
variable {O : ObS} {S : Wd → Hp → Prop} {d : Addr} {od : Obj} {kvs : List (PV × PV)} {W1 : Wd}
end
section
variable {X : Cx} {Y : Cy} {tg : Expr} {pos : Pos}
theorem KdO.stay {bb : Bool} {O : ObS} {W0 : Wd} {H0 : Hp} {W : Wd} {t : Bool} {kvs : List (PV × PV)} {a : Addr} (h : KdO O W0 H0 W t kvs a) : (∃ od ks, (∀ W' H', Stz bb W0 H0 W' H' → H' a = some (.frz od (.dK ks))) ∧ RepK O W kvs ks) ∨ ∃ od ks, (∀ W' H', Stz bb W0 H0 W' H' → H' a = some (.frz od (.dT ks))) ∧ RepT O W kvs ks := by
  rcases h with ⟨ht, od, ks, e, f, r⟩ | ⟨ht, od, ks, e, f, r⟩
  · refine .inl ⟨od, ks, fun W' H' s => s.kp a _ e fun g z => ?_, r⟩
    rcases f with f | f
    · rw [f] at z; cases z
    · rw [f] at z; cases z; exact .inr ⟨_, .inl ⟨ks, rfl⟩, rfl⟩
  · refine .inr ⟨od, ks, fun W' H' s => s.kp a _ e fun g z => ?_, r⟩
    rcases f with f | f
    · rw [f] at z; cases z
    · rw [f] at z; cases z; exact .inr ⟨_, .inr ⟨ks, rfl⟩, rfl⟩
end
end JP

set_option linter.all false
namespace JP
def leS (a b : List Nat) : Bool := decide (a ≤ b)
def srtL (ss : List (List Nat)) : List (List Nat) := ss.mergeSort leS
def lSrtL : PV → Option (List PV)
  | .lst xs => (asS xs).bind fun ss => if ss.length ≤ 1000000 then some ((srtL ss).map .str) else none
  | _ => none
@[simp] theorem lSrtL_0 (xs : List PV) : lSrtL (.lst xs) = (asS xs).bind fun ss => if ss.length ≤ 1000000 then some ((srtL ss).map .str) else none := rfl
/-- each once, as met first -/
def onceI (ns : List Int) : List Int := ns.foldl (fun ms k => if ms.any (· == k) then ms else ms ++ [k]) []
/-- len(set(list of whole numbers)) -/
def pLnSt : PV → Option PV
  | .lst xs => (asI xs).bind fun ns => if ns.length < 4000 then some (.int ((onceI ns).length : Nat)) else none
  | _ => none
@[simp] theorem pLnSt_0 (xs : List PV) : pLnSt (.lst xs) = (asI xs).bind fun ns => if ns.length < 4000 then some (.int ((onceI ns).length : Nat)) else none := rfl
/-- tuples of whole numbers, t < u -/
def lexI : List Int → List Int → Bool
  | [], [] => false
  | [], _ :: _ => true
  | _ :: _, [] => false
  | x :: xs, y :: ys => if x = y then lexI xs ys else decide (x < y)
def pLtT : PV → PV → Option PV
  | .tup xs, .tup ys => (asI xs).bind fun ns => (asI ys).bind fun ms => some (.bl (lexI ns ms))
  | _, _ => none
@[simp] theorem pLtT_0 (xs ys : List PV) : pLtT (.tup xs) (.tup ys) = (asI xs).bind fun ns => (asI ys).bind fun ms => some (.bl (lexI ns ms)) := rfl
end JP

set_option Elab.async false
set_option linter.all false
set_option maxRecDepth 100000
namespace JP
open PySem L2 PyProof.Rows
section
variable {X : Cx} {Y : Cy} {e : Expr} {f : EX} {pos p : Pos}
end
end JP

set_option Elab.async false
set_option linter.all false
set_option maxRecDepth 100000
namespace JP
open PySem L2 PyProof.Rows
def rSetI (K : PySem.W.Frag) : List V → Hp → VK → Prop := fun xs H Q => ∃ (p : Addr) (ns : List Int), xs = [.ref p] ∧ SqL K H p (ns.map V.int) ∧ ns.length < 4000 ∧ ∀ l, H l = none → Q (.ref l) (upd H l (.set (fun k => (onceI ns).any (· == k)) (onceI ns).length))
def rLenS : List V → Hp → VK → Prop := fun xs H Q => ∃ (p : Addr) (S : Int → Bool) (n : Nat), xs = [.ref p] ∧ H p = some (.set S n) ∧ Q (.int n) H
section
variable {X : Cx} {Y : Cy} {e : Expr} {f : EX} {pos p pos2 p2 : Pos}
variable {a b : Expr} {g : EX}
end
end JP

set_option linter.all false
set_option maxRecDepth 100000
namespace JP
/-- what an expression that may change the store ends in -/
inductive RE (α : Type) where
  | ok (a : α) (e : Ev) | ex (x : PX) (e : Ev) | bad
/-- what a call that may change the store ends in -/
inductive RS (α : Type) where
  | ok (a : α) (S : List Cl) | ex (x : PX) (S : List Cl) | bad
abbrev EY := Ev → RE PV
abbrev AY := Ev → RE (List PV)
abbrev MS := List Cl → List PV → RS PV
abbrev MR := List Cl → List PV → R PV
abbrev MSF := List Cl → List PV → RS (List PV)
abbrev MRF := List Cl → List PV → R (List PV)
def RE.bind {α β : Type} : RE α → (α → Ev → RE β) → RE β
  | .ok a e, f => f a e
  | .ex x e, _ => .ex x e
  | .bad, _ => .bad
@[simp] theorem RE.bind_ok {α β : Type} (a : α) (e : Ev) (f : α → Ev → RE β) : (RE.ok a e).bind f = f a e := rfl
@[simp] theorem RE.bind_ex {α β : Type} (x : PX) (e : Ev) (f : α → Ev → RE β) : (RE.ex x e).bind f = .ex x e := rfl
@[simp] theorem RE.bind_bad {α β : Type} (f : α → Ev → RE β) : (RE.bad).bind f = .bad := rfl
def up {α : Type} (r : R α) (env : Ev) : RE α := match r with | .ok a => .ok a env | .ex x => .ex x env | .bad => .bad
@[simp] theorem up_ok {α : Type} (a : α) (env : Ev) : up (.ok a) env = .ok a env := rfl
@[simp] theorem up_ex {α : Type} (x : PX) (env : Ev) : up (.ex x : R α) env = .ex x env := rfl
@[simp] theorem up_bad {α : Type} (env : Ev) : up (.bad : R α) env = .bad := rfl
def yUp {α : Type} (f : Ev → R α) : Ev → RE α := fun env => up (f env) env
@[simp] theorem yUp_app {α : Type} (f : Ev → R α) (env : Ev) : yUp f env = up (f env) env := rfl
def thenY {α : Type} (r : RE α) (n : α → Ev → Ou) : Ou := match r with | .ok a e => n a e | .ex x e => .ex x e | .bad => .bad
@[simp] theorem thenY_ok {α : Type} (a : α) (e : Ev) (n : α → Ev → Ou) : thenY (.ok a e) n = n a e := rfl
@[simp] theorem thenY_ex {α : Type} (x : PX) (e : Ev) (n : α → Ev → Ou) : thenY (.ex x e) n = .ex x e := rfl
@[simp] theorem thenY_bad {α : Type} (n : α → Ev → Ou) : thenY (.bad) n = .bad := rfl
/-- the store is beside slot s -/
def sto (s : Nat) (env : Ev) : Option (List Cl) := match env[s]? with | some (.h _ S) => some S | _ => none
@[simp] theorem sto_0 (p : PV) (S : List Cl) (env : Ev) : sto 0 (.h p S :: env) = some S := rfl
@[simp] theorem sto_s (s : Nat) (x : Sl) (env : Ev) : sto (s + 1) (x :: env) = sto s env := by unfold sto; rw [List.getElem?_cons_succ]
def setS (s : Nat) (S : List Cl) (env : Ev) : Ev := match env[s]? with | some (.h p _) => env.set s (.h p S) | _ => env
@[simp] theorem setS_0 (p : PV) (S T : List Cl) (env : Ev) : setS 0 T (.h p S :: env) = .h p T :: env := rfl
@[simp] theorem setS_s (s : Nat) (T : List Cl) (x : Sl) (env : Ev) : setS (s + 1) T (x :: env) = x :: setS s T env := by
  unfold setS
  rw [List.getElem?_cons_succ]
  cases env[s]? with
  | none => rfl
  | some y => cases y <;> rfl
def onS {α : Type} (o : Option (List Cl)) (f : List Cl → α) (b : α) : α := match o with | some S => f S | none => b
@[simp] theorem onS_some {α : Type} (S : List Cl) (f : List Cl → α) (b : α) : onS (some S) f b = f S := rfl
@[simp] theorem onS_none {α : Type} (f : List Cl → α) (b : α) : onS none f b = b := rfl
def clO (kd : Nat) (n : String) : Option Cl → R PV
  | some (.o k fs) => if k = kd then (match fs.lookup n with | some p => .ok p | none => .bad) else .bad
  | _ => .bad
@[simp] theorem clO_o (kd : Nat) (n : String) (k : Nat) (fs : List (String × PV)) : clO kd n (some (.o k fs)) = if k = kd then (match fs.lookup n with | some p => .ok p | none => .bad) else .bad := rfl
def clL : Option Cl → R PV
  | some (.l xs) => .ok (.lst xs)
  | _ => .bad
@[simp] theorem clL_l (xs : List PV) : clL (some (.l xs)) = .ok (.lst xs) := rfl
def clD : Option Cl → R PV
  | some (.d t kvs) => .ok (.dct t kvs)
  | some (.w t kvs) => .ok (.dct t kvs)
  | _ => .bad
@[simp] theorem clD_d (t : Bool) (kvs : List (PV × PV)) : clD (some (.d t kvs)) = .ok (.dct t kvs) := rfl
@[simp] theorem clD_w (t : Bool) (kvs : List (PV × PV)) : clD (some (.w t kvs)) = .ok (.dct t kvs) := rfl
def locS {α : Type} (p : PV) (f : Nat → α) (b : α) : α := match p with | .loc n => f n | _ => b
@[simp] theorem locS_loc {α : Type} (n : Nat) (f : Nat → α) (b : α) : locS (.loc n) f b = f n := rfl
/-- x.n of an object in the store -/
def eFd (s kd : Nat) (n : String) (f : EX) : EX := fun env => (f env).bind fun p => locS p (fun m => onS (sto s env) (fun S => clO kd n S[m]?) .bad) .bad
@[simp] theorem eFd_app (s kd : Nat) (n : String) (f : EX) (env : Ev) : eFd s kd n f env = (f env).bind fun p => locS p (fun m => onS (sto s env) (fun S => clO kd n S[m]?) .bad) .bad := rfl
/-- what stands in a list of the store, in a dict -/
def eLc (s : Nat) (f : EX) : EX := fun env => (f env).bind fun p => locS p (fun m => onS (sto s env) (fun S => clL S[m]?) .bad) .bad
@[simp] theorem eLc_app (s : Nat) (f : EX) (env : Ev) : eLc s f env = (f env).bind fun p => locS p (fun m => onS (sto s env) (fun S => clL S[m]?) .bad) .bad := rfl
def eDc (s : Nat) (f : EX) : EX := fun env => (f env).bind fun p => locS p (fun m => onS (sto s env) (fun S => clD S[m]?) .bad) .bad
@[simp] theorem eDc_app (s : Nat) (f : EX) (env : Ev) : eDc s f env = (f env).bind fun p => locS p (fun m => onS (sto s env) (fun S => clD S[m]?) .bad) .bad := rfl
def eCalR (s : Nat) (m : MR) (fa : AX) : EX := fun env => (fa env).bind fun ps => onS (sto s env) (fun S => m S ps) .bad
@[simp] theorem eCalR_app (s : Nat) (m : MR) (fa : AX) (env : Ev) : eCalR s m fa env = (fa env).bind fun ps => onS (sto s env) (fun S => m S ps) .bad := rfl
def lCalR (s : Nat) (m : MRF) (fa : AX) : AX := fun env => (fa env).bind fun ps => onS (sto s env) (fun S => m S ps) .bad
@[simp] theorem lCalR_app (s : Nat) (m : MRF) (fa : AX) (env : Ev) : lCalR s m fa env = (fa env).bind fun ps => onS (sto s env) (fun S => m S ps) .bad := rfl
/-- an object of the kind kd, without a field m -/
def isCl (kd : Nat) (m : String) : Option Cl → Bool
  | some (.o k fs) => k == kd && (fs.lookup m).isNone
  | _ => false
@[simp] theorem isCl_o (kd : Nat) (m : String) (k : Nat) (fs : List (String × PV)) : isCl kd m (some (.o k fs)) = (k == kd && (fs.lookup m).isNone) := rfl
def eMthR (s kd : Nat) (mn : String) (m : MR) (fo : EX) (fa : AX) : EX := fun env => (fo env).bind fun x => locS x (fun n => onS (sto s env) (fun S => if isCl kd mn S[n]? then (fa env).bind fun ps => m S (x :: ps) else .bad) .bad) .bad
@[simp] theorem eMthR_app (s kd : Nat) (mn : String) (m : MR) (fo : EX) (fa : AX) (env : Ev) : eMthR s kd mn m fo fa env = (fo env).bind fun x => locS x (fun n => onS (sto s env) (fun S => if isCl kd mn S[n]? then (fa env).bind fun ps => m S (x :: ps) else .bad) .bad) .bad := rfl
def lMthR (s kd : Nat) (mn : String) (m : MRF) (fo : EX) (fa : AX) : AX := fun env => (fo env).bind fun x => locS x (fun n => onS (sto s env) (fun S => if isCl kd mn S[n]? then (fa env).bind fun ps => m S (x :: ps) else .bad) .bad) .bad
@[simp] theorem lMthR_app (s kd : Nat) (mn : String) (m : MRF) (fo : EX) (fa : AX) (env : Ev) : lMthR s kd mn m fo fa env = (fo env).bind fun x => locS x (fun n => onS (sto s env) (fun S => if isCl kd mn S[n]? then (fa env).bind fun ps => m S (x :: ps) else .bad) .bad) .bad := rfl
/-- the end of a call within an expression -/
def endY {α : Type} (s : Nat) (env : Ev) : RS α → RE α
  | .ok p S => .ok p (setS s S env)
  | .ex x S => .ex x (setS s S env)
  | .bad => .bad
@[simp] theorem endY_ok {α : Type} (s : Nat) (env : Ev) (p : α) (S : List Cl) : endY s env (.ok p S) = .ok p (setS s S env) := rfl
@[simp] theorem endY_ex {α : Type} (s : Nat) (env : Ev) (x : PX) (S : List Cl) : endY s env (.ex x S : RS α) = .ex x (setS s S env) := rfl
@[simp] theorem endY_bad {α : Type} (s : Nat) (env : Ev) : endY s env (.bad : RS α) = .bad := rfl
def eCalS (s : Nat) (m : MS) (fa : AY) : EY := fun env => (fa env).bind fun ps e => onS (sto s e) (fun S => endY s e (m S ps)) .bad
@[simp] theorem eCalS_app (s : Nat) (m : MS) (fa : AY) (env : Ev) : eCalS s m fa env = (fa env).bind fun ps e => onS (sto s e) (fun S => endY s e (m S ps)) .bad := rfl
def lCalS (s : Nat) (m : MSF) (fa : AY) : AY := fun env => (fa env).bind fun ps e => onS (sto s e) (fun S => endY s e (m S ps)) .bad
@[simp] theorem lCalS_app (s : Nat) (m : MSF) (fa : AY) (env : Ev) : lCalS s m fa env = (fa env).bind fun ps e => onS (sto s e) (fun S => endY s e (m S ps)) .bad := rfl
def eMthS (s kd : Nat) (mn : String) (m : MS) (fo : EY) (fa : AY) : EY := fun env => (fo env).bind fun x e => locS x (fun n => onS (sto s e) (fun S => if isCl kd mn S[n]? then (fa e).bind fun ps e2 => onS (sto s e2) (fun S2 => endY s e2 (m S2 (x :: ps))) .bad else .bad) .bad) .bad
@[simp] theorem eMthS_app (s kd : Nat) (mn : String) (m : MS) (fo : EY) (fa : AY) (env : Ev) : eMthS s kd mn m fo fa env = (fo env).bind fun x e => locS x (fun n => onS (sto s e) (fun S => if isCl kd mn S[n]? then (fa e).bind fun ps e2 => onS (sto s e2) (fun S2 => endY s e2 (m S2 (x :: ps))) .bad else .bad) .bad) .bad := rfl
def lMthS (s kd : Nat) (mn : String) (m : MSF) (fo : EY) (fa : AY) : AY := fun env => (fo env).bind fun x e => locS x (fun n => onS (sto s e) (fun S => if isCl kd mn S[n]? then (fa e).bind fun ps e2 => onS (sto s e2) (fun S2 => endY s e2 (m S2 (x :: ps))) .bad else .bad) .bad) .bad
@[simp] theorem lMthS_app (s kd : Nat) (mn : String) (m : MSF) (fo : EY) (fa : AY) (env : Ev) : lMthS s kd mn m fo fa env = (fo env).bind fun x e => locS x (fun n => onS (sto s e) (fun S => if isCl kd mn S[n]? then (fa e).bind fun ps e2 => onS (sto s e2) (fun S2 => endY s e2 (m S2 (x :: ps))) .bad else .bad) .bad) .bad := rfl
/-- C(..): a new object in the store -/
def newY (s : Nat) (n : Nat) (env : Ev) : RS PV → RE PV
  | .ok .non S => .ok (.loc n) (setS s S env)
  | .ex x S => .ex x (setS s S env)
  | _ => .bad
@[simp] theorem newY_ok (s : Nat) (n : Nat) (env : Ev) (S : List Cl) : newY s n env (.ok .non S) = .ok (.loc n) (setS s S env) := rfl
@[simp] theorem newY_ex (s : Nat) (n : Nat) (env : Ev) (x : PX) (S : List Cl) : newY s n env (.ex x S) = .ex x (setS s S env) := rfl
def eMkS (s kd : Nat) (m : MS) (fa : AY) : EY := fun env => (fa env).bind fun ps e => onS (sto s e) (fun S => newY s S.length e (m (S ++ [.o kd []]) (.loc S.length :: ps))) .bad
@[simp] theorem eMkS_app (s kd : Nat) (m : MS) (fa : AY) (env : Ev) : eMkS s kd m fa env = (fa env).bind fun ps e => onS (sto s e) (fun S => newY s S.length e (m (S ++ [.o kd []]) (.loc S.length :: ps))) .bad := rfl
/-- a new list, a new dict, put into the store -/
def eCl (s : Nat) (fa : AX) : EY := fun env => (up (fa env) env).bind fun xs e => onS (sto s e) (fun S => .ok (.loc S.length) (setS s (S ++ [.l xs]) e)) .bad
@[simp] theorem eCl_app (s : Nat) (fa : AX) (env : Ev) : eCl s fa env = (up (fa env) env).bind fun xs e => onS (sto s e) (fun S => .ok (.loc S.length) (setS s (S ++ [.l xs]) e)) .bad := rfl
def eCd (s : Nat) (t : Bool) : EY := fun env => onS (sto s env) (fun S => .ok (.loc S.length) (setS s (S ++ [.d t []]) env)) .bad
@[simp] theorem eCd_app (s : Nat) (t : Bool) (env : Ev) : eCd s t env = onS (sto s env) (fun S => .ok (.loc S.length) (setS s (S ++ [.d t []]) env)) .bad := rfl
def yCons (f : EY) (g : AY) : AY := fun env => (f env).bind fun p e => (g e).bind fun ps e2 => .ok (p :: ps) e2
@[simp] theorem yCons_app (f : EY) (g : AY) (env : Ev) : yCons f g env = (f env).bind fun p e => (g e).bind fun ps e2 => .ok (p :: ps) e2 := rfl
def yNil : AY := fun env => .ok [] env
@[simp] theorem yNil_app (env : Ev) : yNil env = .ok [] env := rfl
def upO {α : Type} (o : Option α) (env : Ev) : RE α := match o with | some a => .ok a env | none => .bad
@[simp] theorem upO_some {α : Type} (a : α) (env : Ev) : upO (some a) env = .ok a env := rfl
@[simp] theorem upO_none {α : Type} (env : Ev) : upO (none : Option α) env = .bad := rfl
def eOpY (h : PV → PV → Option PV) (f g : EY) : EY := fun env => (f env).bind fun x e => (g e).bind fun y e2 => upO (h x y) e2
@[simp] theorem eOpY_app (h : PV → PV → Option PV) (f g : EY) (env : Ev) : eOpY h f g env = (f env).bind fun x e => (g e).bind fun y e2 => upO (h x y) e2 := rfl
def eUnY (h : PV → Option PV) (f : EY) : EY := fun env => (f env).bind fun x e => upO (h x) e
@[simp] theorem eUnY_app (h : PV → Option PV) (f : EY) (env : Ev) : eUnY h f env = (f env).bind fun x e => upO (h x) e := rfl
def lOpY (h : PV → PV → Option (List PV)) (f g : EY) : AY := fun env => (f env).bind fun x e => (g e).bind fun y e2 => upO (h x y) e2
@[simp] theorem lOpY_app (h : PV → PV → Option (List PV)) (f g : EY) (env : Ev) : lOpY h f g env = (f env).bind fun x e => (g e).bind fun y e2 => upO (h x y) e2 := rfl
def pNotY : PV → Option PV
  | .bl b => some (.bl (!b))
  | _ => none
@[simp] theorem pNotY_bl (b : Bool) : pNotY (.bl b) = some (.bl (!b)) := rfl
/-- a tuple, a list of new things -/
def eTupY (f : AY) : EY := fun env => (f env).bind fun ps e => .ok (.tup ps) e
@[simp] theorem eTupY_app (f : AY) (env : Ev) : eTupY f env = (f env).bind fun ps e => .ok (.tup ps) e := rfl
/-- what is frozen, a new list that is never changed -/
def eFrzY (f : AY) : EY := fun env => (f env).bind fun ps e => .ok (.lst ps) e
@[simp] theorem eFrzY_app (f : AY) (env : Ev) : eFrzY f env = (f env).bind fun ps e => .ok (.lst ps) e := rfl
def andY (p : PV) (g : EY) (env : Ev) : RE PV := match p with | .bl true => g env | .bl false => .ok (.bl false) env | _ => .bad
@[simp] theorem andY_t (g : EY) (env : Ev) : andY (.bl true) g env = g env := rfl
@[simp] theorem andY_f (g : EY) (env : Ev) : andY (.bl false) g env = .ok (.bl false) env := rfl
def eAndY (f g : EY) : EY := fun env => (f env).bind fun x e => andY x g e
@[simp] theorem eAndY_app (f g : EY) (env : Ev) : eAndY f g env = (f env).bind fun x e => andY x g e := rfl
def orY (p : PV) (g : EY) (env : Ev) : RE PV := match p with | .bl false => g env | .bl true => .ok (.bl true) env | _ => .bad
@[simp] theorem orY_t (g : EY) (env : Ev) : orY (.bl true) g env = .ok (.bl true) env := rfl
@[simp] theorem orY_f (g : EY) (env : Ev) : orY (.bl false) g env = g env := rfl
def eOrY (f g : EY) : EY := fun env => (f env).bind fun x e => orY x g e
@[simp] theorem eOrY_app (f g : EY) (env : Ev) : eOrY f g env = (f env).bind fun x e => orY x g e := rfl
def sExpY (f : EY) : SX := fun env => thenY (f env) fun _ e => .nx e
@[simp] theorem sExpY_app (f : EY) (env : Ev) : sExpY f env = thenY (f env) fun _ e => .nx e := rfl
def sAsgY (i : Nat) (f : EY) : SX := fun env => thenY (f env) fun p e => .nx (e.set i (.v p))
@[simp] theorem sAsgY_app (i : Nat) (f : EY) (env : Ev) : sAsgY i f env = thenY (f env) fun p e => .nx (e.set i (.v p)) := rfl
def sOwnY (i : Nat) (f : AY) : SX := fun env => thenY (f env) fun ps e => .nx (e.set i (.o ps))
@[simp] theorem sOwnY_app (i : Nat) (f : AY) (env : Ev) : sOwnY i f env = thenY (f env) fun ps e => .nx (e.set i (.o ps)) := rfl
def sUnpY (b : BX) (f : EY) : SX := fun env => thenY (f env) fun p e => match b p e with | .ok e2 => .nx e2 | _ => .bad
@[simp] theorem sUnpY_app (b : BX) (f : EY) (env : Ev) : sUnpY b f env = thenY (f env) fun p e => match b p e with | .ok e2 => .nx e2 | _ => .bad := rfl
def sIfY (f : EY) (s t : SX) : SX := fun env => thenY (f env) fun p e => ifS p s t e
@[simp] theorem sIfY_app (f : EY) (s t : SX) (env : Ev) : sIfY f s t env = thenY (f env) fun p e => ifS p s t e := rfl
def sRetS (s : Nat) (f : EY) : SX := fun env => thenY (f env) fun p e => onS (sto s e) (fun S => .rs p S) .bad
@[simp] theorem sRetS_app (s : Nat) (f : EY) (env : Ev) : sRetS s f env = thenY (f env) fun p e => onS (sto s e) (fun S => .rs p S) .bad := rfl
def sRetG (s : Nat) (f : AY) : SX := fun env => thenY (f env) fun p e => onS (sto s e) (fun S => .rg p S) .bad
@[simp] theorem sRetG_app (s : Nat) (f : AY) (env : Ev) : sRetG s f env = thenY (f env) fun p e => onS (sto s e) (fun S => .rg p S) .bad := rfl
def sRetGO (s i : Nat) : SX := fun env => match env[i]? with | some (.o xs) => onS (sto s env) (fun S => .rg xs S) .bad | _ => .bad
@[simp] theorem sRetGO_app (s i : Nat) (env : Ev) : sRetGO s i env = match env[i]? with | some (.o xs) => onS (sto s env) (fun S => .rg xs S) .bad | _ => .bad := rfl
def sRetNS (s : Nat) : SX := fun env => onS (sto s env) (fun S => .rs .non S) .bad
@[simp] theorem sRetNS_app (s : Nat) (env : Ev) : sRetNS s env = onS (sto s env) (fun S => .rs .non S) .bad := rfl
/-- fields: put or exchanged -/
def fput (n : String) (v : PV) : List (String × PV) → List (String × PV)
  | [] => [(n, v)]
  | (m, w) :: r => if n == m then (m, v) :: r else (m, w) :: fput n v r
@[simp] theorem fput_nil (n : String) (v : PV) : fput n v [] = [(n, v)] := rfl
@[simp] theorem fput_cons (n : String) (v : PV) (m : String) (w : PV) (r : List (String × PV)) : fput n v ((m, w) :: r) = if n == m then (m, v) :: r else (m, w) :: fput n v r := rfl
/-- the cell n becomes another one -/
def wrO (kd : Nat) (n : String) (v : PV) (s m : Nat) (e : Ev) (S : List Cl) : Option Cl → Ou
  | some (.o k fs) => if k = kd ∧ fs.length < 900 then .nx (setS s (S.set m (.o k (fput n v fs))) e) else .bad
  | _ => .bad
@[simp] theorem wrO_o (kd : Nat) (n : String) (v : PV) (s m : Nat) (e : Ev) (S : List Cl) (k : Nat) (fs : List (String × PV)) : wrO kd n v s m e S (some (.o k fs)) = if k = kd ∧ fs.length < 900 then .nx (setS s (S.set m (.o k (fput n v fs))) e) else .bad := rfl
/-- o.n = v -/
def sFldS (s kd : Nat) (n : String) (fo : EX) (fv : EY) : SX := fun env => thenY (fv env) fun v e => thenO (fo e) e fun p => locS p (fun m => onS (sto s e) (fun S => wrO kd n v s m e S S[m]?) .bad) .bad
@[simp] theorem sFldS_app (s kd : Nat) (n : String) (fo : EX) (fv : EY) (env : Ev) : sFldS s kd n fo fv env = thenY (fv env) fun v e => thenO (fo e) e fun p => locS p (fun m => onS (sto s e) (fun S => wrO kd n v s m e S S[m]?) .bad) .bad := rfl
/-- o.n op= v -/
def wrA (h : PV → PV → Option PV) (kd : Nat) (n : String) (s m : Nat) (env : Ev) (fv : EX) (S : List Cl) : Option Cl → Ou
  | some (.o k fs) => if k = kd ∧ fs.length < 900 then (match fs.lookup n with | some w => thenO (fv env) env fun v => (match h w v with | some z => .nx (setS s (S.set m (.o k (fput n z fs))) env) | none => .bad) | none => .bad) else .bad
  | _ => .bad
@[simp] theorem wrA_o (h : PV → PV → Option PV) (kd : Nat) (n : String) (s m : Nat) (env : Ev) (fv : EX) (S : List Cl) (k : Nat) (fs : List (String × PV)) : wrA h kd n s m env fv S (some (.o k fs)) = if k = kd ∧ fs.length < 900 then (match fs.lookup n with | some w => thenO (fv env) env fun v => (match h w v with | some z => .nx (setS s (S.set m (.o k (fput n z fs))) env) | none => .bad) | none => .bad) else .bad := rfl
def sFldA (h : PV → PV → Option PV) (s kd : Nat) (n : String) (fo fv : EX) : SX := fun env => thenO (fo env) env fun p => locS p (fun m => onS (sto s env) (fun S => wrA h kd n s m env fv S S[m]?) .bad) .bad
@[simp] theorem sFldA_app (h : PV → PV → Option PV) (s kd : Nat) (n : String) (fo fv : EX) (env : Ev) : sFldA h s kd n fo fv env = thenO (fo env) env fun p => locS p (fun m => onS (sto s env) (fun S => wrA h kd n s m env fv S S[m]?) .bad) .bad := rfl
/-- the list of the store changes: h tells the new one -/
def wrL (h : List PV → Option (List PV)) (s m : Nat) (e : Ev) (S : List Cl) : Option Cl → Ou
  | some (.l xs) => (match h xs with | some ys => .nx (setS s (S.set m (.l ys)) e) | none => .bad)
  | _ => .bad
@[simp] theorem wrL_l (h : List PV → Option (List PV)) (s m : Nat) (e : Ev) (S : List Cl) (xs : List PV) : wrL h s m e S (some (.l xs)) = (match h xs with | some ys => .nx (setS s (S.set m (.l ys)) e) | none => .bad) := rfl
/-- xs.append(v) -/
def hApp (v : PV) (xs : List PV) : Option (List PV) := if xs.length < 1000000 then some (xs ++ [v]) else none
@[simp] theorem hApp_app (v : PV) (xs : List PV) : hApp v xs = if xs.length < 1000000 then some (xs ++ [v]) else none := rfl
def isLl : Option Cl → Bool
  | some (.l _) => true
  | _ => false
@[simp] theorem isLl_l (xs : List PV) : isLl (some (.l xs)) = true := rfl
def sAppS (s : Nat) (fo : EX) (fv : EY) : SX := fun env => thenO (fo env) env fun p => locS p (fun m => onS (sto s env) (fun S0 => if isLl S0[m]? then thenY (fv env) fun v e => onS (sto s e) (fun S => wrL (hApp v) s m e S S[m]?) .bad else .bad) .bad) .bad
@[simp] theorem sAppS_app (s : Nat) (fo : EX) (fv : EY) (env : Ev) : sAppS s fo fv env = thenO (fo env) env fun p => locS p (fun m => onS (sto s env) (fun S0 => if isLl S0[m]? then thenY (fv env) fun v e => onS (sto s e) (fun S => wrL (hApp v) s m e S S[m]?) .bad else .bad) .bad) .bad := rfl
def sClrS (s : Nat) (fo : EX) : SX := fun env => thenO (fo env) env fun p => locS p (fun m => onS (sto s env) (fun S => wrL (fun _ => some []) s m env S S[m]?) .bad) .bad
@[simp] theorem sClrS_app (s : Nat) (fo : EX) (env : Ev) : sClrS s fo env = thenO (fo env) env fun p => locS p (fun m => onS (sto s env) (fun S => wrL (fun _ => some []) s m env S S[m]?) .bad) .bad := rfl
/-- xs.pop() -/
def popY (s m : Nat) (e : Ev) (S : List Cl) : Option Cl → RE PV
  | some (.l xs) => (match xs.getLast? with | some p => .ok p (setS s (S.set m (.l xs.dropLast)) e) | none => .bad)
  | _ => .bad
@[simp] theorem popY_l (s m : Nat) (e : Ev) (S : List Cl) (xs : List PV) : popY s m e S (some (.l xs)) = (match xs.getLast? with | some p => .ok p (setS s (S.set m (.l xs.dropLast)) e) | none => .bad) := rfl
def ePopS (s : Nat) (fo : EX) : EY := fun env => (up (fo env) env).bind fun p e => locS p (fun m => onS (sto s e) (fun S => popY s m e S S[m]?) .bad) .bad
@[simp] theorem ePopS_app (s : Nat) (fo : EX) (env : Ev) : ePopS s fo env = (up (fo env) env).bind fun p e => locS p (fun m => onS (sto s e) (fun S => popY s m e S S[m]?) .bad) .bad := rfl
/-- d[k] = v -/
def wrD (s m : Nat) (e : Ev) (S : List Cl) (k v : PV) : Option Cl → Ou
  | some (.d t kvs) => if isKy t k && decide (kvs.length < 1000000) then .nx (setS s (S.set m (.d t (dPut kvs k v))) e) else .bad
  | _ => .bad
@[simp] theorem wrD_d (s m : Nat) (e : Ev) (S : List Cl) (k v : PV) (t : Bool) (kvs : List (PV × PV)) : wrD s m e S k v (some (.d t kvs)) = if isKy t k && decide (kvs.length < 1000000) then .nx (setS s (S.set m (.d t (dPut kvs k v))) e) else .bad := rfl
def sDptS (s : Nat) (fo fk : EX) (fv : EY) : SX := fun env => thenY (fv env) fun v e => thenO (fo e) e fun p => locS p (fun m => thenO (fk e) e fun k => onS (sto s e) (fun S => wrD s m e S k v S[m]?) .bad) .bad
@[simp] theorem sDptS_app (s : Nat) (fo fk : EX) (fv : EY) (env : Ev) : sDptS s fo fk fv env = thenY (fv env) fun v e => thenO (fo e) e fun p => locS p (fun m => thenO (fk e) e fun k => onS (sto s e) (fun S => wrD s m e S k v S[m]?) .bad) .bad := rfl
/-- d.pop(k) -/
def dDel (kvs : List (PV × PV)) (p : PV) : List (PV × PV) := kvs.filter fun kv => !eqP kv.1 p
def wrDp (s m : Nat) (e : Ev) (S : List Cl) (k : PV) : Option Cl → RE PV
  | some (.d false kvs) => if isK1 k then (match dLk kvs k with | some v => .ok v (setS s (S.set m (.d false (dDel kvs k))) e) | none => .bad) else .bad
  | _ => .bad
@[simp] theorem wrDp_d (s m : Nat) (e : Ev) (S : List Cl) (k : PV) (kvs : List (PV × PV)) : wrDp s m e S k (some (.d false kvs)) = if isK1 k then (match dLk kvs k with | some v => .ok v (setS s (S.set m (.d false (dDel kvs k))) e) | none => .bad) else .bad := rfl
def isDK : Option Cl → Bool
  | some (.d false _) => true
  | _ => false
@[simp] theorem isDK_d (kvs : List (PV × PV)) : isDK (some (.d false kvs)) = true := rfl
def eDppS (s : Nat) (fo fk : EX) : EY := fun env => (up (fo env) env).bind fun p _ => locS p (fun m => onS (sto s env) (fun S => if isDK S[m]? then (up (fk env) env).bind fun k _ => wrDp s m env S k S[m]? else .bad) .bad) .bad
@[simp] theorem eDppS_app (s : Nat) (fo fk : EX) (env : Ev) : eDppS s fo fk env = (up (fo env) env).bind fun p _ => locS p (fun m => onS (sto s env) (fun S => if isDK S[m]? then (up (fk env) env).bind fun k _ => wrDp s m env S k S[m]? else .bad) .bad) .bad := rfl
/-- whole numbers only -/
def pAddI : PV → PV → Option PV
  | .int a, .int b => some (.int (a + b))
  | _, _ => none
@[simp] theorem pAddI_0 (a b : Int) : pAddI (.int a) (.int b) = some (.int (a + b)) := rfl
def pSubI : PV → PV → Option PV
  | .int a, .int b => some (.int (a - b))
  | _, _ => none
@[simp] theorem pSubI_0 (a b : Int) : pSubI (.int a) (.int b) = some (.int (a - b)) := rfl
/-- d[k] op= v -/
def wrDA (h : PV → PV → Option PV) (s m : Nat) (env : Ev) (fv : EX) (S : List Cl) (k : PV) : Option Cl → Ou
  | some (.d t kvs) => if isKy t k && decide (kvs.length < 1000000) then (match dLk kvs k with | some w => thenO (fv env) env fun v => (match h w v with | some z => .nx (setS s (S.set m (.d t (dPut kvs k z))) env) | none => .bad) | none => .bad) else .bad
  | _ => .bad
@[simp] theorem wrDA_d (h : PV → PV → Option PV) (s m : Nat) (env : Ev) (fv : EX) (S : List Cl) (k : PV) (t : Bool) (kvs : List (PV × PV)) : wrDA h s m env fv S k (some (.d t kvs)) = if isKy t k && decide (kvs.length < 1000000) then (match dLk kvs k with | some w => thenO (fv env) env fun v => (match h w v with | some z => .nx (setS s (S.set m (.d t (dPut kvs k z))) env) | none => .bad) | none => .bad) else .bad := rfl
def sDagS (h : PV → PV → Option PV) (s : Nat) (fo fk fv : EX) : SX := fun env => thenO (fo env) env fun p => locS p (fun m => thenO (fk env) env fun k => onS (sto s env) (fun S => wrDA h s m env fv S k S[m]?) .bad) .bad
@[simp] theorem sDagS_app (h : PV → PV → Option PV) (s : Nat) (fo fk fv : EX) (env : Ev) : sDagS h s fo fk fv env = thenO (fo env) env fun p => locS p (fun m => thenO (fk env) env fun k => onS (sto s env) (fun S => wrDA h s m env fv S k S[m]?) .bad) .bad := rfl
/-- xs.append(v), the list one's own, v may change the store -/
def sAppY (i : Nat) (f : EY) : SX := fun env => match env[i]? with
  | some (.o _) => thenY (f env) fun p e => (match e[i]? with | some (.o xs) => if xs.length < 1000000 then .nx (e.set i (.o (xs ++ [p]))) else .bad | _ => .bad)
  | _ => .bad
@[simp] theorem sAppY_app (i : Nat) (f : EY) (env : Ev) : sAppY i f env = match env[i]? with
  | some (.o _) => thenY (f env) fun p e => (match e[i]? with | some (.o xs) => if xs.length < 1000000 then .nx (e.set i (.o (xs ++ [p]))) else .bad | _ => .bad)
  | _ => .bad := rfl
/-- the store beside the value in slot s -/
def hidE {α : Type} (s : Nat) (S : List Cl) (env : Ev) (f : Ev → α) (b : α) : α := match env[s]? with | some (.v p) => f (env.set s (.h p S)) | _ => b
@[simp] theorem hidE_0 {α : Type} (S : List Cl) (p : PV) (env : Ev) (f : Ev → α) (b : α) : hidE 0 S (.v p :: env) f b = f (.h p S :: env) := rfl
def outS (s : Nat) : Ou → RS PV
  | .rs p S => .ok p S
  | .nx e => onS (sto s e) (fun S => .ok .non S) .bad
  | .ex x e => onS (sto s e) (fun S => .ex x S) .bad
  | _ => .bad
@[simp] theorem outS_rs (s : Nat) (p : PV) (S : List Cl) : outS s (.rs p S) = .ok p S := rfl
@[simp] theorem outS_nx (s : Nat) (e : Ev) : outS s (.nx e) = onS (sto s e) (fun S => .ok .non S) .bad := rfl
@[simp] theorem outS_ex (s : Nat) (x : PX) (e : Ev) : outS s (.ex x e) = onS (sto s e) (fun S => .ex x S) .bad := rfl
@[simp] theorem outS_bad (s : Nat) : outS s .bad = .bad := rfl
def outG (s : Nat) : Ou → RS (List PV)
  | .rg p S => .ok p S
  | .ex x e => onS (sto s e) (fun S => .ex x S) .bad
  | _ => .bad
@[simp] theorem outG_rg (s : Nat) (p : List PV) (S : List Cl) : outG s (.rg p S) = .ok p S := rfl
@[simp] theorem outG_ex (s : Nat) (x : PX) (e : Ev) : outG s (.ex x e) = onS (sto s e) (fun S => .ex x S) .bad := rfl
@[simp] theorem outG_bad (s : Nat) : outG s .bad = .bad := rfl
/-- a def that may change the store (all parameters values), one that reads it -/
@[simp] def mkS (s n k : Nat) (b : SX) : MS := fun S ps => if ps.length = k then hidE s S (env0 n (argS (List.replicate k false) ps)) (fun e => outS s (b e)) .bad else .bad
@[simp] def mkSF (s n k : Nat) (b : SX) : MSF := fun S ps => if ps.length = k then hidE s S (env0 n (argS (List.replicate k false) ps)) (fun e => outG s (b e)) .bad else .bad
@[simp] def mkR (s n : Nat) (md : List Bool) (b : SX) : MR := fun S ps => if ps.length = md.length then hidE s S (env0 n (argS md ps)) (fun e => runP b e) .bad else .bad
@[simp] def mkRF (s n : Nat) (md : List Bool) (b : SX) : MRF := fun S ps => if ps.length = md.length then hidE s S (env0 n (argS md ps)) (fun e => runF b e) .bad else .bad
def eCalY (m : List PV → R PV) (fa : AY) : EY := fun env => (fa env).bind fun ps e => up (m ps) e
@[simp] theorem eCalY_app (m : List PV → R PV) (fa : AY) (env : Ev) : eCalY m fa env = (fa env).bind fun ps e => up (m ps) e := rfl
def lCalY (m : List PV → R (List PV)) (fa : AY) : AY := fun env => (fa env).bind fun ps e => up (m ps) e
@[simp] theorem lCalY_app (m : List PV → R (List PV)) (fa : AY) (env : Ev) : lCalY m fa env = (fa env).bind fun ps e => up (m ps) e := rfl
def eCalRY (s : Nat) (m : MR) (fa : AY) : EY := fun env => (fa env).bind fun ps e => onS (sto s e) (fun S => up (m S ps) e) .bad
@[simp] theorem eCalRY_app (s : Nat) (m : MR) (fa : AY) (env : Ev) : eCalRY s m fa env = (fa env).bind fun ps e => onS (sto s e) (fun S => up (m S ps) e) .bad := rfl
def lCalRY (s : Nat) (m : MRF) (fa : AY) : AY := fun env => (fa env).bind fun ps e => onS (sto s e) (fun S => up (m S ps) e) .bad
@[simp] theorem lCalRY_app (s : Nat) (m : MRF) (fa : AY) (env : Ev) : lCalRY s m fa env = (fa env).bind fun ps e => onS (sto s e) (fun S => up (m S ps) e) .bad := rfl
def srtI (ns : List Int) : List Int := ns.mergeSort fun a b => decide (a ≤ b)
def lSrtI : PV → Option (List PV)
  | .dct false kvs => (asI (kvs.map Prod.fst)).map fun ns => (srtI ns).map .int
  | _ => none
@[simp] theorem lSrtI_0 (kvs : List (PV × PV)) : lSrtI (.dct false kvs) = (asI (kvs.map Prod.fst)).map fun ns => (srtI ns).map .int := rfl
end JP

set_option Elab.async false
set_option linter.all false
set_option maxRecDepth 100000
namespace JP
open PySem L2
section
variable {Y : Cy} {W W' W1 : Wd} {H H' H1 : Hp} {σ : St} {env : Ev} {O : ObS} {S S' : List Cl} {a : Addr} {n s : Nat} {o : HO} {c c' : Cl}
/-- what a slot that is not beside the store tells, where cells change -/
theorem SlR.frameN {x : Option V} {s : Sl} {b : List Addr} (hn : ∀ p S, s ≠ .h p S) (w : Wle W W') (h : SlR Y W H x s b) (k : ∀ a ∈ b, W' a = none ∧ H' a = H a) : SlR Y W' H' x s b := by
  cases s with
  | u => exact h
  | h p S => exact (hn p S rfl).elim
  | v p => exact ⟨h.1, h.2.choose, h.2.choose_spec.1, h.2.choose_spec.2.mono w⟩
  | b p => exact ⟨h.1, h.2.1, h.2.2.choose, h.2.2.choose_spec.1, h.2.2.choose_spec.2.mono w⟩
  | x e => exact ⟨h.1, h.2.1, h.2.2.mono w⟩
  | o ps =>
    obtain ⟨a, vs, rfl, g2, g3, g4, g5, g6⟩ := h
    obtain ⟨k1, k2⟩ := k a List.mem_cons_self
    exact ⟨a, vs, rfl, g2, k2.trans g3, k1, g5, g6.mono w⟩
  | d dt kvs =>
    obtain ⟨a, rfl, g2, g3, g4, g5⟩ := h
    obtain ⟨k1, k2⟩ := k a List.mem_cons_self
    exact ⟨a, rfl, g2, k1, g4, g5.mono w k2⟩
  | k ps =>
    obtain ⟨g1, a, ga, g2, vs, g3, g4, g5⟩ := h
    exact ⟨g1, a, ga, g2, vs, g3, g4, g5.mono w⟩
  | kd t kvs =>
    obtain ⟨g1, a, ga, g2, g3⟩ := h
    exact ⟨g1, a, ga, g2, g3.mono w⟩
  | n kd fs =>
    obtain ⟨a, dx, vs, b', rfl, g2, g3, g4, g5, g6, g7, g8, g9, g10⟩ := h
    have ka := k a List.mem_cons_self
    have kx := k dx (List.mem_cons_of_mem _ List.mem_cons_self)
    exact ⟨a, dx, vs, b', rfl, g2, g3, ka.2.trans g4, kx.2.trans g5, ka.1, kx.1, g8, g9, g10.frame w fun c hc => k c (List.mem_cons_of_mem _ (List.mem_cons_of_mem _ hc))⟩
theorem sto_at (e : sto s env = some S) : ∃ p, env[s]? = some (.h p S) := by
  unfold sto at e
  cases q : env[s]? with
  | none => rw [q] at e; cases e
  | some x =>
    rw [q] at e
    cases x with
    | h p T => cases e; exact ⟨p, rfl⟩
    | _ => cases e
theorem EnvR.store (E : EnvR Y W H σ env) (e : sto s env = some S) : ∃ p, env[s]? = some (.h p S) ∧ s = Y.hs ∧ StoR Y.O W H S := by
  obtain ⟨p, e⟩ := sto_at e
  obtain ⟨x, b, _, _, _, hi, sr⟩ := E.slot e
  exact ⟨p, e, hi, sr⟩
/-- everything goes on to another heap in which cells may be others -/
theorem EnvR.eff (E : EnvR Y W H σ env) (hef : Y.ef = true) (e : sto s env = some S) (t : Stz true W H W' H') (sr : StoR Y.O W' H' S') : EnvR Y W' H' σ (setS s S' env) := by
  obtain ⟨p, e, hs, _⟩ := E.store e
  obtain ⟨bs, l, h, d⟩ := E.ex
  have st : Stz Y.ef Y.W0 Y.H0 W' H' := by
    have q := E.st
    rw [hef] at q ⊢
    exact q.transz Y.h0 t
  have own : ∀ (j : Nat) (x : Option V) (sl : Sl) (b : List Addr), env[j]? = some sl → σ[j]? = some x → bs[j]? = some b → ∀ a ∈ b, W' a = none ∧ H' a = H a := by
    intro j x sl b e1 e2 e3 a ha
    obtain ⟨f1, _, o, f3, nt⟩ := (h j sl x b e1 e2 e3).free a ha
    obtain ⟨q1, q2⟩ := t.own f3 f1 nt
    exact ⟨q2, by rw [q1, f3]⟩
  have es : setS s S' env = env.set s (.h p S') := by unfold setS; rw [e]
  rw [es]
  have hi : s < env.length := (List.getElem?_eq_some_iff.mp e).1
  refine ⟨st, by simp [E.len], bs, by simp [l], fun j sl x b e1 e2 e3 => ?_, d⟩
  by_cases hj : s = j
  · subst hj
    rw [List.getElem?_set_self hi] at e1
    cases e1
    obtain ⟨h1, ⟨v, h2, h3⟩, h4, _⟩ := h s _ x b e e2 e3
    exact ⟨h1, ⟨v, h2, h3.mono t.le⟩, h4, sr⟩
  · rw [List.getElem?_set_ne hj] at e1
    refine (h j sl x b e1 e2 e3).frameN (fun p' S2 z => ?_) t.le (own j x sl b e1 e2 e3)
    subst z
    obtain ⟨_, _, h4, _⟩ := h j _ x b e1 e2 e3
    exact hj (hs.trans (show j = Y.hs from h4).symm)
theorem CellR.nz (r : CellR O W H a c) (nw : ∀ t k, c ≠ .w t k) : ∀ od u, H a ≠ some (.frz od u) := by
  intro od u e
  cases c with
  | l xs => obtain ⟨vs, q, _⟩ := r; rw [q] at e; cases e
  | d t kvs => rcases r with ⟨_, ks, q, _⟩ | ⟨_, ks, q, _⟩ <;> rw [q] at e <;> cases e
  | o kd fs => obtain ⟨dx, vs, q, _⟩ := r; rw [q] at e; cases e
  | w t kvs => exact nw t kvs rfl
theorem CellR.loc (r : CellR O W H a c) (m : Nat) : ∃ o, H a = some o ∧ LocF m o := by
  cases c with
  | l xs => obtain ⟨vs, q, _⟩ := r; exact ⟨_, q, LocF.lst⟩
  | d t kvs =>
    rcases r with ⟨_, ks, q, _⟩ | ⟨_, ks, q, _⟩
    · exact ⟨_, q, LocF.dK⟩
    · exact ⟨_, q, LocF.dT⟩
  | o kd fs => obtain ⟨dx, vs, q, _⟩ := r; exact ⟨_, q, LocF.ins⟩
  | w t kvs =>
    rcases r with ⟨_, od, ks, q, _⟩ | ⟨_, od, ks, q, _⟩
    · exact ⟨_, q, LocF.frz⟩
    · exact ⟨_, q, LocF.frz⟩
/-- the cell n: where it stands, and how it may change -/
theorem EnvR.cell (E : EnvR Y W H σ env) (e : sto s env = some S) {v : V} (r : Rep Y.O W (.loc n) v) (hn : S[n]? = some c) : ∃ a, v = .ref a ∧ W a = some (LocF n) ∧ CellR Y.O W H a c := by
  obtain ⟨p, e1, hs, sr⟩ := E.store e
  obtain ⟨a, e2, w⟩ := Rep.loc_iff.mp r
  obtain ⟨b, w2, q⟩ := sr.at_ n c hn
  have := sr.one b a n w2 w
  subst this
  exact ⟨b, e2, w, q⟩
end
section
variable {O : ObS} {W : Wd} {fs : List (String × PV)} {vs : List (Str × V)}
theorem FvR.look : ∀ {fs : List (String × PV)} {vs : List (Str × V)} (n : String), FvR O W fs vs → (match fs.lookup n with
    | some p => ∃ v, vs.lookup (PySem.Str.ofString n) = some v ∧ Rep O W p v
    | none => vs.lookup (PySem.Str.ofString n) = none)
  | [], _, n, h => by rw [show _ = [] from h]; rfl
  | (m, p) :: r, _, n, h => by
    obtain ⟨v, t, e, h1, h⟩ := h
    subst e
    have ih := h.look n
    rw [List.lookup_cons, List.lookup_cons, ofS_beq]
    cases n == m
    · exact ih
    · exact ⟨v, rfl, h1⟩
theorem FvR.len : ∀ {fs : List (String × PV)} {vs : List (Str × V)}, FvR O W fs vs → vs.length = fs.length
  | [], _, h => by rw [show _ = [] from h]; rfl
  | (m, p) :: r, _, h => by obtain ⟨v, t, e, _, h⟩ := h; rw [e, List.length_cons, List.length_cons, h.len]
theorem FvR.put {n : String} {p : PV} {v : V} (hp : Rep O W p v) : ∀ {fs : List (String × PV)} {vs : List (Str × V)}, FvR O W fs vs → FvR O W (fput n p fs) (putF (PySem.Str.ofString n) v vs)
  | [], _, h => by rw [show _ = [] from h]; exact ⟨v, [], rfl, hp, rfl⟩
  | (m, q) :: r, _, h => by
    obtain ⟨w, t, e, h1, h⟩ := h
    subst e
    unfold fput putF
    by_cases z : n = m
    · subst z
      rw [if_pos (by simp), if_pos rfl]
      exact ⟨v, t, rfl, hp, h⟩
    · rw [if_neg (by simpa using z), if_neg (fun y => z (ofS_inj y).symm)]
      exact ⟨w, _, rfl, h1, h.put hp⟩
end
end JP

set_option Elab.async false
set_option linter.all false
set_option maxRecDepth 100000
namespace JP
open PySem L2
def RPY {α : Type} (Y : Cy) (σ : St) (W : Wd) (r : RE α) (k : Wd → Hp → Ev → α → Prop) : Prop :=
  match r with
  | .ok a e => ∀ W' H', Wle W W' → EnvR Y W' H' σ e → k W' H' e a
  | .ex x e => ∀ W' H' cls d, Wle W W' → EnvR Y W' H' σ e → ExR Y.O W' cls d x → Y.Wx cls d σ H'
  | .bad => False
def tPY (Y : Cy) (f : EY) : TE := fun σ H Q => ∃ W env, EnvR Y W H σ env ∧ RPY Y σ W (f env) fun W' H' _ p => ∀ x, Rep Y.O W' p x → Q x H'
/-- a new list -/
def tFY (Y : Cy) (f : AY) : TE := fun σ H Q => ∃ W env, EnvR Y W H σ env ∧ RPY Y σ W (f env) fun W1 H1 _ ps => ∀ W' H' a vs, Stp W1 H1 W' H' → H1 a = none → W' a = none → H' a = some (.lst vs) → RepL Y.O W' ps vs → Q (.ref a) H'
def tArY (Y : Cy) (n : Nat) (f : AY) : TA := fun σ H Q => ∃ W env, EnvR Y W H σ env ∧ RPY Y σ W (f env) fun W' H' _ ps => ∀ xs, RepL Y.O W' ps xs → ps.length = n → Q xs H'
def tTY (Y : Cy) (f : EY) : TT := fun σ H Q => ∃ W env, EnvR Y W H σ env ∧ RPY Y σ W (f env) fun W' H' _ p => ∃ b, p = .bl b ∧ Q b H'
section
variable {Y : Cy} {σ : St} {W W1 : Wd} {H H1 : Hp} {α β : Type} {env : Ev}
theorem RPY.mono {r : RE α} {k k' : Wd → Hp → Ev → α → Prop} (h : RPY Y σ W r k) (m : ∀ W' H' e a, Wle W W' → EnvR Y W' H' σ e → k W' H' e a → k' W' H' e a) : RPY Y σ W r k' := by
  cases r with
  | ok a e => exact fun W' H' l E => m W' H' e a l E (h W' H' l E)
  | ex x e => exact h
  | bad => exact h
theorem RPY.start {r : RE α} {k : Wd → Hp → Ev → α → Prop} (l : Wle W W1) (h : RPY Y σ W r k) : RPY Y σ W1 r k := by
  cases r with
  | ok a e => exact fun W' H' l' => h W' H' (l.trans l')
  | ex x e => exact fun W' H' cls d l' => h W' H' cls d (l.trans l')
  | bad => exact h
theorem RPY.bind {r : RE α} {g : α → Ev → RE β} {k : Wd → Hp → Ev → β → Prop} (h : RPY Y σ W (r.bind g) k) : RPY Y σ W r fun W1 H1 e a => RPY Y σ W1 (g a e) k := by
  cases r with
  | ok a e => exact fun W' H' l E => RPY.start l h
  | ex x e => exact h
  | bad => exact h
theorem RPY.now {a : α} {e : Ev} {k : Wd → Hp → Ev → α → Prop} (E : EnvR Y W H σ e) (h : RPY Y σ W (.ok a e) k) : k W H e a := h W H (Wle.refl W) E
theorem RPY.upO {o : Option α} {e : Ev} {k : Wd → Hp → Ev → α → Prop} (h : RPY Y σ W (JP.upO o e) k) : ∃ a, o = some a ∧ RPY Y σ W (.ok a e) k := by
  cases o with
  | none => exact False.elim h
  | some a => exact ⟨a, rfl, h⟩
theorem RPY.up {r : R α} {k : Wd → Hp → Ev → α → Prop} (E : EnvR Y W H σ env) (h : RPY Y σ W (JP.up r env) k) : RP Y σ W H r fun W' H' a => k W' H' env a := by
  cases r with
  | ok a => exact fun W' H' t => h W' H' t.le (E.step t)
  | ex x => exact fun W' H' cls d t z => h W' H' cls d t.le (E.step t) z
  | bad => exact h
theorem RPY.onS {o : Option (List Cl)} {f : List Cl → RE α} {k : Wd → Hp → Ev → α → Prop} (h : RPY Y σ W (JP.onS o f .bad) k) : ∃ S, o = some S ∧ RPY Y σ W (f S) k := by
  cases o with
  | none => exact False.elim h
  | some S => exact ⟨S, rfl, h⟩
theorem RPY.locS {p : PV} {f : Nat → RE α} {k : Wd → Hp → Ev → α → Prop} (h : RPY Y σ W (JP.locS p f .bad) k) : ∃ n, p = .loc n ∧ RPY Y σ W (f n) k := by
  cases p with
  | loc n => exact ⟨n, rfl, h⟩
  | _ => exact False.elim h
theorem RP.onS {o : Option (List Cl)} {f : List Cl → R α} {k : Wd → Hp → α → Prop} (h : RP Y σ W H (JP.onS o f .bad) k) : ∃ S, o = some S ∧ RP Y σ W H (f S) k := by
  cases o with
  | none => exact False.elim h
  | some S => exact ⟨S, rfl, h⟩
theorem RP.locS {p : PV} {f : Nat → R α} {k : Wd → Hp → α → Prop} (h : RP Y σ W H (JP.locS p f .bad) k) : ∃ n, p = .loc n ∧ RP Y σ W H (f n) k := by
  cases p with
  | loc n => exact ⟨n, rfl, h⟩
  | _ => exact False.elim h
end
section
variable {X : Cx} {Y : Cy} {e a b : Expr} {es rest : List Expr} {pos p : Pos} {n : Nat} {md : List Bool}
end
end JP

set_option Elab.async false
set_option linter.all false
set_option maxRecDepth 100000
namespace JP
open PySem L2
/-- a value, a list, a dict of one's own or of the store -/
def RepC (O : ObS) (W : Wd) (H : Hp) (p : PV) (x : V) : Prop := RepB O W H p x ∨ ∃ a t kvs n, p = .dct t kvs ∧ x = .ref a ∧ W a = some (LocF n) ∧ DctR O W H t kvs a
def tC' (Y : Cy) (f : EX) : TE := fun σ H Q => ∃ W env, EnvR Y W H σ env ∧ RP Y σ W H (f env) fun W' H' p => ∀ x, RepC Y.O W' H' p x → Q x H'
theorem RepC.step {O : ObS} {W W' : Wd} {H H' : Hp} {p : PV} {x : V} (s : Stp W H W' H') (r : RepC O W H p x) : RepC O W' H' p x := by
  rcases r with r | ⟨a, t, kvs, n, e1, e2, w, d⟩
  · exact .inl (r.step s)
  · exact .inr ⟨a, t, kvs, n, e1, e2, s.le _ _ w, d.mono s.le (s.lk rfl a n w)⟩
theorem RepC.dct {O : ObS} {W : Wd} {H : Hp} {x : V} {t : Bool} {kvs : List (PV × PV)} (h : Hold W H) (r : RepC O W H (.dct t kvs) x) : ∃ a, x = .ref a ∧ DctR O W H t kvs a := by
  rcases r with r | ⟨a, t, kvs, n, e1, e2, w, d⟩
  · exact r.dct h
  · cases e1
    exact ⟨a, e2, d⟩
section
variable {X : Cx} {Y : Cy} {e o a b : Expr} {es : List Expr} {f fo g : EX} {fa : AX} {pos apos cpos p : Pos} {x m : Str} {k s kd n : Nat} {md : List Bool} {ns : List String}
end
def ROS {α : Type} (O : ObS) (W : Wd) (H : Hp) (r : RS α) (k : Wd → Hp → α → Prop) (E : XK) : Prop :=
  match r with
  | .ok a S => ∀ W' H', Stz true W H W' H' → StoR O W' H' S → k W' H' a
  | .ex e S => ∀ W' H' cls d, Stz true W H W' H' → StoR O W' H' S → ExR O W' cls d e → E cls d H'
  | .bad => False
def spS (O : ObS) (n : Nat) (m : MS) : Sp := fun vs H Q E => ∃ W S ps, Hold W H ∧ StoR O W H S ∧ RepL O W ps vs ∧ ps.length = n ∧ ROS O W H (m S ps) (fun W' H' p => ∀ x, Rep O W' p x → Q x H') E
def spSF (O : ObS) (n : Nat) (m : MSF) : Sp := fun vs H Q E => ∃ W S ps, Hold W H ∧ StoR O W H S ∧ RepL O W ps vs ∧ ps.length = n ∧ ROS O W H (m S ps) (fun W' H' qs => ∀ a vs, H a = none → W' a = none → H' a = some (.lst vs) → RepL O W' qs vs → Q (.ref a) H') E
def spR (O : ObS) (md : List Bool) (m : MR) : Sp := fun vs H Q E => ∃ W S ps, Hold W H ∧ StoR O W H S ∧ ArgR O W H md ps vs ∧ RC O W H (m S ps) (fun W' H' p => ∀ x, Rep O W' p x → Q x H') E
def spRF (O : ObS) (md : List Bool) (m : MRF) : Sp := fun vs H Q E => ∃ W S ps, Hold W H ∧ StoR O W H S ∧ ArgR O W H md ps vs ∧ RC O W H (m S ps) (fun W' H' qs => ∀ a vs, H a = none → W' a = none → H' a = some (.lst vs) → RepL O W' qs vs → Q (.ref a) H') E
theorem spS.len {O : ObS} {n : Nat} {m : MS} {vs : List V} {H : Hp} {Q : VK} {E : XK} (h : spS O n m vs H Q E) : vs.length = n := by
  obtain ⟨W, S, ps, _, _, h, hn, _⟩ := h
  rw [← h.len, hn]
theorem spSF.len {O : ObS} {n : Nat} {m : MSF} {vs : List V} {H : Hp} {Q : VK} {E : XK} (h : spSF O n m vs H Q E) : vs.length = n := by
  obtain ⟨W, S, ps, _, _, h, hn, _⟩ := h
  rw [← h.len, hn]
theorem spR.len {O : ObS} {md : List Bool} {m : MR} {vs : List V} {H : Hp} {Q : VK} {E : XK} (h : spR O md m vs H Q E) : vs.length = md.length := by
  obtain ⟨W, S, ps, _, _, h, _⟩ := h
  exact h.len.1
theorem spRF.len {O : ObS} {md : List Bool} {m : MRF} {vs : List V} {H : Hp} {Q : VK} {E : XK} (h : spRF O md m vs H Q E) : vs.length = md.length := by
  obtain ⟨W, S, ps, _, _, h, _⟩ := h
  exact h.len.1
section
variable {X : Cx} {Y : Cy} {e o : Expr} {es : List Expr} {fo : EX} {go : EY} {fa : AX} {ga : AY} {pos p apos : Pos} {md : List Bool} {x m : Str} {k s kd n : Nat} {σ : St} {W W1 : Wd} {H : Hp} {env : Ev} {S : List Cl}
/-- behind the call -/
theorem RPY.call {α : Type} {r : RS α} {q : Wd → Hp → Ev → α → Prop} {k : Wd → Hp → α → Prop} (hef : Y.ef = true) (E : EnvR Y W H σ env) (eS : sto s env = some S) (h : RPY Y σ W (endY s env r) q) (hk : ∀ W' H' S' a, Stz true W H W' H' → EnvR Y W' H' σ (setS s S' env) → q W' H' (setS s S' env) a → k W' H' a) : ROS Y.O W H r k (WE Y.Wx σ) := by
  cases r with
  | ok a S' => exact fun W' H' t sr => hk W' H' S' a t (E.eff hef eS t sr) (h W' H' t.le (E.eff hef eS t sr))
  | ex x S' => exact fun W' H' cls d t sr z => h W' H' cls d t.le (E.eff hef eS t sr) z
  | bad => exact h
abbrev MTree (X : Cx) (o : Expr) (m : Str) (apos pos : Pos) (es : List Expr) (pl : Sem Bool) : Prop := eval (.Call (.Attribute o m apos) es [] pos) X.env = (do
      let ov ← eval o X.env
      standAt apos.atName
      let (f, first) ← holding [ov] (getMethod ov m pl)
      callWith pos f first (backTo pos (starEach es X.env)) (backToKw pos (keywordEach [] X.env)))
variable {C : Addr} {ns : List String} {pl : Sem Bool}
end
end JP

set_option Elab.async false
set_option linter.all false
set_option maxRecDepth 100000
namespace JP
open PySem L2
section
variable {Y : Cy} {σ : St} {W : Wd} {H : Hp} {α : Type} {env : Ev} {D : Ends}
theorem OP.ry {r : RE α} {n : α → Ev → Ou} {k : Wd → Hp → Ev → α → Prop} (q : OP Y D W (thenY r n)) (hk : ∀ a e, r = .ok a e → OP Y D W (n a e) → ∀ W' H', Wle W W' → EnvR Y W' H' σ e → k W' H' e a) : RPY Y σ W r k := by
  cases r with
  | ok a e => exact hk a e rfl q
  | ex x e => exact fun W' H' cls d l E z => q W' H' σ cls d l E z
  | bad => exact q
theorem OP.onS {o : Option (List Cl)} {f : List Cl → Ou} (q : OP Y D W (JP.onS o f .bad)) : ∃ S, o = some S ∧ OP Y D W (f S) := by
  cases o with
  | none => exact False.elim q
  | some S => exact ⟨S, rfl, q⟩
theorem OP.locS {p : PV} {f : Nat → Ou} (q : OP Y D W (JP.locS p f .bad)) : ∃ n, p = .loc n ∧ OP Y D W (f n) := by
  cases p with
  | loc n => exact ⟨n, rfl, q⟩
  | _ => exact False.elim q
end
section
variable {X : Cx} {Y : Cy} {st : Stmt} {rest : List Stmt} {g h : SX} {f : EX} {fy : EY} {fa : AY} {e v o : Expr} {fo fk fv : EX} {gv : EY} {pos pos' p1 apos cpos : Pos} {i s kd : Nat} {x : Str} {C : Addr} {ns : List String}
theorem RepL.last {O : ObS} {W : Wd} {ps : List PV} {vs : List V} {p : PV} (h : RepL O W ps vs) (e : ps.getLast? = some p) : ∃ v, vs[vs.length - 1]? = some v ∧ Rep O W p v ∧ RepL O W ps.dropLast vs.dropLast := by
  rw [List.getLast?_eq_getElem?] at e
  obtain ⟨v, h1, h2⟩ := h.get e
  refine ⟨v, by rw [← h.len]; exact h1, h2, ?_⟩
  rw [List.dropLast_eq_take, List.dropLast_eq_take, h.len]
  exact h.take _
theorem RepK.drop {O : ObS} {W : Wd} {p : PV} {k0 : Key} (h0 : kRep p k0) : ∀ {kvs : List (PV × PV)} {ks : List (Key × V)}, RepK O W kvs ks → RepK O W (dDel kvs p) (dropK ks k0)
  | [], _, h => by rw [RepK.nil_iff.mp h]; exact RepK.nil_iff.mpr rfl
  | (q, z') :: kvs, _, h => by
    obtain ⟨k, v, r, e, a1, a2, a3⟩ := RepK.cons_iff.mp h
    subst e
    have ih := RepK.drop h0 a3
    unfold dDel dropK at ih ⊢
    rw [List.filter_cons, List.filter_cons]
    dsimp only
    rw [kRep_eq a1 h0]
    by_cases c : k = k0
    · subst c
      simpa using ih
    · rw [if_pos (by simpa using c), if_pos (by simpa using c)]
      exact RepK.cons_iff.mpr ⟨k, v, _, rfl, a1, a2, ih⟩
end
end JP

set_option Elab.async false
set_option linter.all false
set_option maxRecDepth 100000
namespace JP
open PySem L2
section
variable {P : Program} {w : World} {K : PySem.W.Frag} {mg : Str → Option Value} {base : Heap} {O : ObS} {x qual : Str} {st : Stmt} {f : Addr} {fd : FuncData} {N ps : List Str} {k : Nat}
end
theorem StoR.empty {O : ObS} {W : Wd} {H : Hp} (h : ∀ a n, W a ≠ some (LocF n)) : StoR O W H [] := ⟨fun n c e => by simp at e, fun a b n e1 _ => (h a n e1).elim, fun a n e => (h a n e).elim⟩
end JP

set_option Elab.async false
set_option linter.all false
set_option maxRecDepth 100000
namespace JP
open PySem L2
section
variable {X : Cx} {Y : Cy} {a b e : Expr} {f g : EY} {pos p : Pos}
end
end JP

set_option Elab.async false
set_option linter.all false
set_option maxRecDepth 100000
namespace JP
open PySem L2
section
variable {X : Cx} {Y : Cy} {e : Expr} {es : List Expr} {ga : AY} {pos p : Pos} {md : List Bool} {x : Str} {k n : Nat}
end
end JP

set_option Elab.async false
set_option linter.all false
set_option maxRecDepth 100000
namespace JP
open PySem L2 PyProof.Rows
section
variable {X : Cx} {Y : Cy} {e : Expr} {f : EX} {pos p : Pos}
end
end JP

set_option linter.all false
set_option maxRecDepth 100000
namespace JP
open PySem
mutual
/-- as data of the model -/
def toR : PV → PyData
  | .bl b => .bool b
  | .int i => .int i
  | .str s => .str ⟨s.toArray⟩
  | .lst xs => .list (toRs xs)
  | .tup xs => .tuple (toRs xs)
  | _ => .none
def toRs : List PV → List PyData
  | [] => []
  | x :: xs => toR x :: toRs xs
end
/-- the text that repr writes -/
def shwL (p : PV) : List Nat := (toR p).shown.cps.toList
mutual
/-- a bound of its length -/
def rpSz : PV → Nat
  | .str s => 10 * s.length + 2
  | .int _ => 202
  | .lst xs => rpSzs xs + 3
  | .tup xs => rpSzs xs + 3
  | _ => 5
def rpSzs : List PV → Nat
  | [] => 0
  | x :: xs => rpSz x + 2 + rpSzs xs
end
mutual
/-- no number in it is too great to be written -/
def rpInt : PV → Bool
  | .int i => decide (i.natAbs < 10 ^ 200)
  | .lst xs => rpInts xs
  | .tup xs => rpInts xs
  | _ => true
def rpInts : List PV → Bool
  | [] => true
  | x :: xs => rpInt x && rpInts xs
end
def pRepr (p : PV) : Option PV := if shp p && rpInt p && decide (rpSz p ≤ 1000000) && decide (depP p ≤ 60) then some (.str (shwL p)) else none
def orL (x : PV) (r : R PV) : R PV := match x with | .lst [] => r | .lst (a :: b) => .ok (.lst (a :: b)) | _ => .bad
@[simp] theorem orL_n (r : R PV) : orL (.lst []) r = r := rfl
@[simp] theorem orL_c (a : PV) (b : List PV) (r : R PV) : orL (.lst (a :: b)) r = .ok (.lst (a :: b)) := rfl
def eOrL (f g : EX) : EX := fun env => (f env).bind fun x => orL x (g env)
@[simp] theorem eOrL_app (f g : EX) (env : Ev) : eOrL f g env = ((f env).bind fun x => orL x (g env)) := rfl
def rs1 (S : List Cl) : PV → PV
  | .loc n => (match S[n]? with | some (.l xs) => .lst xs | _ => .loc n)
  | p => p
def rsv (S : List Cl) : PV → PV
  | .loc n => rs1 S (.loc n)
  | .lst xs => .lst (xs.map (rs1 S))
  | .tup xs => .tup (xs.map (rs1 S))
  | p => p
def eRs (s : Nat) (h : PV → PV → Option PV) (f g : EX) : EX := fun env => (f env).bind fun p => (g env).bind fun q => onS (sto s env) (fun S => ofO (h (rsv S p) (rsv S q))) .bad
@[simp] theorem eRs_app (s : Nat) (h : PV → PV → Option PV) (f g : EX) (env : Ev) : eRs s h f g env = ((f env).bind fun p => (g env).bind fun q => onS (sto s env) (fun S => ofO (h (rsv S p) (rsv S q))) .bad) := rfl
/-- .. where the operands may change the store -/
def eRsY (s : Nat) (h : PV → PV → Option PV) (f g : EY) : EY := fun env => (f env).bind fun p e => (g e).bind fun q e2 => onS (sto s e2) (fun S => upO (h (rsv S p) (rsv S q)) e2) .bad
@[simp] theorem eRsY_app (s : Nat) (h : PV → PV → Option PV) (f g : EY) (env : Ev) : eRsY s h f g env = (f env).bind fun p e => (g e).bind fun q e2 => onS (sto s e2) (fun S => upO (h (rsv S p) (rsv S q)) e2) .bad := rfl
/-- what a cell that is a list holds, or the value itself -/
def lcA (S : List Cl) : PV → R PV
  | .loc n => (match S[n]? with | some (.l xs) => .ok (.lst xs) | _ => .bad)
  | p => .ok p
def eLcA (s : Nat) (f : EX) : EX := fun env => (f env).bind fun p => onS (sto s env) (fun S => lcA S p) .bad
@[simp] theorem eLcA_app (s : Nat) (f : EX) (env : Ev) : eLcA s f env = ((f env).bind fun p => onS (sto s env) (fun S => lcA S p) .bad) := rfl
mutual
def toQ : PV → PyData
  | .bl b => .bool b
  | .int i => .int i
  | .str s => .str ⟨s.toArray⟩
  | .lst xs => .list (toQs xs)
  | .tup xs => .tuple (toQs xs)
  | .dct _ _ => .dict []
  | _ => .none
def toQs : List PV → List PyData
  | [] => []
  | x :: xs => toQ x :: toQs xs
end
def shwQ (p : PV) : List Nat := (toQ p).shown.cps.toList
mutual
/-- data, empty dicts among it -/
def datQ : PV → Bool
  | .non => true | .bl _ => true | .int _ => true | .str _ => true
  | .lst xs => datQs xs
  | .tup xs => datQs xs
  | .dct t kvs => !t && kvs.isEmpty
  | _ => false
def datQs : List PV → Bool
  | [] => true
  | x :: xs => datQ x && datQs xs
end
mutual
def depQ : PV → Nat
  | .lst xs => depQs xs + 1
  | .tup xs => depQs xs + 1
  | .dct _ _ => 1
  | _ => 0
def depQs : List PV → Nat
  | [] => 0
  | x :: xs => max (depQ x) (depQs xs)
end
def pRepr2 (p : PV) : Option PV := if datQ p && rpInt p && decide (rpSz p ≤ 1000000) && decide (depQ p ≤ 60) then some (.str (shwQ p)) else none
def asII : List PV → Option (List (Int × Int))
  | [] => some []
  | .tup [.int i, .int j] :: r => (asII r).map ((i, j) :: ·)
  | _ => none
def iiP (p : Int × Int) : PV := .tup [.int p.1, .int p.2]
@[simp] theorem asII_ints : ∀ ps : List (Int × Int), asII (ps.map iiP) = some ps
  | [] => rfl
  | p :: ps => by
    have := asII_ints ps
    simp [asII, iiP, this]
def leII (p q : Int × Int) : Bool := decide (p.1 < q.1 ∨ (p.1 = q.1 ∧ p.2 ≤ q.2))
def srtII (ps : List (Int × Int)) : List (Int × Int) := ps.mergeSort leII
def lSrtP : PV → Option (List PV)
  | .dct true kvs => (asII (kvs.map Prod.fst)).map fun ps => (srtII ps).map iiP
  | _ => none
@[simp] theorem lSrtP_0 (kvs : List (PV × PV)) : lSrtP (.dct true kvs) = (asII (kvs.map Prod.fst)).map fun ps => (srtII ps).map iiP := rfl
def hExt : PV → List PV → Option (List PV)
  | .lst ys, xs => if xs.length + ys.length ≤ 1000000 then some (xs ++ ys) else none
  | _, _ => none
@[simp] theorem hExt_lst (ys xs : List PV) : hExt (.lst ys) xs = if xs.length + ys.length ≤ 1000000 then some (xs ++ ys) else none := rfl
def sExtS (s : Nat) (fo fv : EX) : SX := fun env => thenO (fo env) env fun p => locS p (fun m => onS (sto s env) (fun S => if isLl S[m]? then thenO (fv env) env fun v => wrL (hExt v) s m env S S[m]? else .bad) .bad) .bad
@[simp] theorem sExtS_app (s : Nat) (fo fv : EX) (env : Ev) : sExtS s fo fv env = thenO (fo env) env fun p => locS p (fun m => onS (sto s env) (fun S => if isLl S[m]? then thenO (fv env) env fun v => wrL (hExt v) s m env S S[m]? else .bad) .bad) .bad := rfl
def cutT : PV → Option Int → Option Int → Option PV
  | .tup ps, a, b => if loI ps.length a = 0 ∧ hiI ps.length b = ps.length then none else some (.tup (cutN ps a b))
  | _, _, _ => none
@[simp] theorem cutT_0 (ps : List PV) (a b : Option Int) : cutT (.tup ps) a b = (if loI ps.length a = 0 ∧ hiI ps.length b = ps.length then none else some (.tup (cutN ps a b))) := rfl
def eSlT (f : EX) (lo hi : OX) : EX := fun env => (f env).bind fun x => (lo env).bind fun a => (hi env).bind fun b => ofO (cutT x a b)
@[simp] theorem eSlT_app (f : EX) (lo hi : OX) (env : Ev) : eSlT f lo hi env = ((f env).bind fun x => (lo env).bind fun a => (hi env).bind fun b => ofO (cutT x a b)) := rfl
def sAsgH (i : Nat) (f : EX) : SX := fun env => thenO (f env) env fun p => match env[i]? with | some (.h _ S) => .nx (env.set i (.h p S)) | _ => .bad
@[simp] theorem sAsgH_0 (f : EX) (q : PV) (S : List Cl) (env : Ev) : sAsgH 0 f (.h q S :: env) = thenO (f (.h q S :: env)) (.h q S :: env) fun p => .nx (.h p S :: env) := rfl
def cellIs (s m : Nat) (all : List PV) (env : Ev) : Prop := ∃ S, sto s env = some S ∧ S[m]? = some (.l all)
open Classical in
noncomputable def forC (s m : Nat) (all : List PV) (b : BX) (st : SX) : List PV → Ev → Ou
  | [], env => if cellIs s m all env then .nx env else .bad
  | p :: ps, env => if cellIs s m all env then (match b p env with
    | .ok e => (match st e with | .nx e' => forC s m all b st ps e' | .ct e' => forC s m all b st ps e' | .bk e' => .nx e' | o => o)
    | _ => .bad) else .bad
def lCell : Option Cl → Option (List PV)
  | some (.l xs) => some xs
  | _ => none
@[simp] theorem lCell_l (xs : List PV) : lCell (some (.l xs)) = some xs := rfl
noncomputable def sForC (s : Nat) (b : BX) (fo : EX) (st : SX) : SX := fun env => thenO (fo env) env fun p => locS p (fun m => onS (sto s env) (fun S => match lCell S[m]? with | some xs => forC s m xs b st xs env | none => .bad) .bad) .bad
def hIns : PV → PV → List PV → Option (List PV)
  | .int k, p, xs => if 0 ≤ k ∧ k < 1000000 ∧ xs.length < 1000000 then some (xs.take k.toNat ++ [p] ++ xs.drop k.toNat) else none
  | _, _, _ => none
@[simp] theorem hIns_0 (k : Int) (p : PV) (xs : List PV) : hIns (.int k) p xs = if 0 ≤ k ∧ k < 1000000 ∧ xs.length < 1000000 then some (xs.take k.toNat ++ [p] ++ xs.drop k.toNat) else none := rfl
def sInsS (s : Nat) (fo fn fv : EX) : SX := fun env => thenO (fo env) env fun p => locS p (fun m => onS (sto s env) (fun S => if isLl S[m]? then thenO (fn env) env fun n => thenO (fv env) env fun v => wrL (hIns n v) s m env S S[m]? else .bad) .bad) .bad
@[simp] theorem sInsS_app (s : Nat) (fo fn fv : EX) (env : Ev) : sInsS s fo fn fv env = thenO (fo env) env fun p => locS p (fun m => onS (sto s env) (fun S => if isLl S[m]? then thenO (fn env) env fun n => thenO (fv env) env fun v => wrL (hIns n v) s m env S S[m]? else .bad) .bad) .bad := rfl
end JP

set_option Elab.async false
set_option linter.all false
set_option maxRecDepth 100000
namespace JP
open PySem L2
abbrev okT (x : Str) : Prop := ∀ c ∈ x.cps.toList, c < 1114112
theorem okT_of (t : String) : okT (PySem.Str.ofString t) := fun c hc => by
  rw [PySem.Str.ofString_eq_toList] at hc
  simp at hc
  obtain ⟨d, _, rfl⟩ := hc
  rcases d.valid with z | z
  · have : d.toNat < 55296 := z
    omega
  · have : d.toNat < 1114112 := z.2
    omega
theorem okT_app {x y : Str} (h1 : okT x) (h2 : okT y) : okT (x ++ y) := fun c hc => by
  have e : (x ++ y).cps = x.cps ++ y.cps := rfl
  rw [e] at hc
  simp at hc
  rcases hc with z | z
  · exact h1 c (by simpa using z)
  · exact h2 c (by simpa using z)
theorem okT_join {sep : Str} (hs : okT sep) : ∀ (ts : List Str), (∀ t ∈ ts, okT t) → okT (Str.join sep ts)
  | [], _ => fun c hc => by simp [Str.join, Str.empty] at hc
  | [x], h => h x (by simp)
  | x :: y :: r, h => okT_app (okT_app (h x (by simp)) hs) (okT_join hs (y :: r) fun t ht => h t (by simp [ht]))
theorem okT_from : ∀ (ts : List Str) (k : Nat) (acc : Str), okT acc → (∀ t ∈ ts, okT t) → okT (textFrom k acc ts)
  | [], _, _, h, _ => h
  | t :: ts, k, acc, h, h2 => okT_from ts (k + 1) _ (okT_app (okT_app h (okT_of _)) (h2 t (by simp))) fun z hz => h2 z (by simp [hz])
theorem okT_char {q c : Nat} (hc : c < 1114112) : ∀ d ∈ Builtin.Str.reprChar q c, d < 1114112 := by
  have hx : ∀ w, ∀ d ∈ (List.replicate (w - ((Nat.toDigits 16 c).map Char.toNat).length) 48 ++ (Nat.toDigits 16 c).map Char.toNat), d < 1114112 := fun w d hd => by
    rcases List.mem_append.mp hd with z | z
    · rw [List.eq_of_mem_replicate z]; decide
    · obtain ⟨e, _, rfl⟩ := List.mem_map.mp z
      have := e.valid
      rcases this with z | z
      · have : e.toNat < 55296 := z
        omega
      · have : e.toNat < 1114112 := z.2
        omega
  intro d hd
  unfold Builtin.Str.reprChar at hd
  dsimp only at hd
  repeat' split at hd
  all_goals first
    | (rcases List.mem_append.mp hd with z | z
       · simp at z; omega
       · exact hx _ d z)
    | (simp at hd; omega)
theorem okT_fold (q : Nat) : ∀ (l : List Nat) (acc : Array Nat), (∀ c ∈ l, c < 1114112) → (∀ c ∈ acc.toList, c < 1114112) → ∀ c ∈ (l.foldl (fun out c => out ++ (Builtin.Str.reprChar q c).toArray) acc).toList, c < 1114112
  | [], _, _, h => h
  | d :: l, acc, h1, h2 => okT_fold q l _ (fun c hc => h1 c (by simp [hc])) fun c hc => by
      simp at hc
      rcases hc with z | z
      · exact h2 c (by simpa using z)
      · exact okT_char (h1 d (by simp)) c z
theorem okT_repr {x : Str} (h : okT x) : okT (reprText x) := fun c hc => by
  unfold reprText at hc
  have hq : reprQuote x < 1114112 := by unfold reprQuote; split <;> decide
  rw [Array.toList_push, ← Array.foldl_toList] at hc
  rcases List.mem_append.mp hc with z | z
  · exact okT_fold _ x.cps.toList #[reprQuote x] h (fun c hc => by simp at hc; omega) c z
  · simp at z; omega
mutual
/-- the texts within are texts -/
def rpTx : PV → Prop
  | .str s => okS s
  | .lst xs => rpTxs xs
  | .tup xs => rpTxs xs
  | _ => True
def rpTxs : List PV → Prop
  | [] => True
  | x :: xs => rpTx x ∧ rpTxs xs
end
mutual
theorem shown_ok : ∀ p : PV, rpTx p → okT (toR p).shown
  | .non, _ => by simp only [toR, PyData.shown]; exact okT_of _
  | .bl b, _ => by simp only [toR, PyData.shown]; cases b <;> exact okT_of _
  | .int i, _ => by simp only [toR, PyData.shown]; exact okT_of _
  | .str s, h => by
    simp only [toR, PyData.shown]
    exact okT_repr fun c hc => (show okS s by simpa only [rpTx] using h) c (by simpa using hc)
  | .lst xs, h => by
    simp only [toR, PyData.shown]
    exact okT_app (okT_from _ 0 _ (okT_of _) (showns_ok xs (by simpa only [rpTx] using h))) (okT_of _)
  | .tup xs, h => by
    simp only [toR, PyData.shown]
    exact okT_app (okT_app (okT_of _) (okT_join (okT_of _) _ (showns_ok xs (by simpa only [rpTx] using h)))) (okT_of _)
  | .dct _ _, _ => by simp only [toR, PyData.shown]; exact okT_of _
  | .ob _ _, _ => by simp only [toR, PyData.shown]; exact okT_of _
  | .scr _, _ => by simp only [toR, PyData.shown]; exact okT_of _
  | .er _ _, _ => by simp only [toR, PyData.shown]; exact okT_of _
  | .memo _ _, _ => by simp only [toR, PyData.shown]; exact okT_of _
  | .loc _, _ => by simp only [toR, PyData.shown]; exact okT_of _
theorem showns_ok : ∀ xs : List PV, rpTxs xs → ∀ t ∈ PyData.shownAll (toRs xs), okT t
  | [], _, t, h => by simp only [toRs, PyData.shownAll] at h; cases h
  | x :: xs, h, t, ht => by
    have h : rpTx x ∧ rpTxs xs := by simpa only [rpTxs] using h
    simp only [toRs, PyData.shownAll, List.mem_cons] at ht
    rcases ht with rfl | ht
    · exact shown_ok x h.1
    · exact showns_ok xs h.2 t ht
end
theorem from_len : ∀ (ts : List Str) (k : Nat) (acc : Str), (textFrom k acc ts).length ≤ acc.length + piled ts
  | [], _, acc => by simp [textFrom, piled]
  | t :: ts, k, acc => by
    have h := from_len ts (k + 1) (acc ++ (if k > 0 then ", " else "" : String) ++ t)
    rw [strLen_append, strLen_append] at h
    have e : ((if k > 0 then ", " else "" : String) : Str).length ≤ 2 := by split <;> decide
    rw [piled_cons]
    unfold textFrom
    omega
theorem join_len (ts : List Str) : (Str.join ", " ts).length ≤ piled ts := by
  by_cases h : ts = []
  · subst h; decide
  · have := join_length_add ts h; omega
mutual
theorem shown_len : ∀ p : PV, rpTx p → rpInt p = true → (toR p).shown.length ≤ rpSz p
  | .non, _, _ => by simp only [toR, PyData.shown, rpSz]; decide
  | .bl b, _, _ => by simp only [toR, PyData.shown, rpSz]; cases b <;> decide
  | .int i, _, h => by
    simp only [toR, PyData.shown, rpSz]
    have h : i.natAbs < 10 ^ 200 := by simpa only [rpInt, decide_eq_true_eq] using h
    have e := int_text_length_le10 (k := 200) (by decide) h
    rw [ofString_length]; omega
  | .str s, h, _ => by
    simp only [toR, PyData.shown, rpSz]
    have h : okS s := by simpa only [rpTx] using h
    have := StrLaws.reprText_len ⟨s.toArray⟩ fun c hc => by
      have := h c (by simpa using hc)
      omega
    simpa [PySem.Str.length] using this
  | .lst xs, h, h2 => by
    simp only [toR, PyData.shown, rpSz]
    have h3 := showns_len xs (by simpa only [rpTx] using h) (by simpa only [rpInt] using h2)
    have h4 := from_len (PyData.shownAll (toRs xs)) 0 "["
    unfold listText
    rw [strLen_append]
    have e : ((("[" : String) : Str)).length = 1 := rfl
    have e2 : ((("]" : String) : Str)).length = 1 := rfl
    omega
  | .tup xs, h, h2 => by
    simp only [toR, PyData.shown, rpSz]
    have h3 := showns_len xs (by simpa only [rpTx] using h) (by simpa only [rpInt] using h2)
    have h4 := join_len (PyData.shownAll (toRs xs))
    unfold tupleText
    rw [strLen_append, strLen_append]
    have e : ((("(" : String) : Str)).length = 1 := rfl
    have e2 : ((if (PyData.shownAll (toRs xs)).length == 1 then ",)" else ")" : String) : Str).length ≤ 2 := by split <;> decide
    omega
  | .dct _ _, _, _ => by simp only [toR, PyData.shown, rpSz]; decide
  | .ob _ _, _, _ => by simp only [toR, PyData.shown, rpSz]; decide
  | .scr _, _, _ => by simp only [toR, PyData.shown, rpSz]; decide
  | .er _ _, _, _ => by simp only [toR, PyData.shown, rpSz]; decide
  | .memo _ _, _, _ => by simp only [toR, PyData.shown, rpSz]; decide
  | .loc _, _, _ => by simp only [toR, PyData.shown, rpSz]; decide
theorem showns_len : ∀ xs : List PV, rpTxs xs → rpInts xs = true → piled (PyData.shownAll (toRs xs)) ≤ rpSzs xs
  | [], _, _ => by simp [toRs, PyData.shownAll, piled]
  | x :: xs, h, h2 => by
    have h : rpTx x ∧ rpTxs xs := by simpa only [rpTxs] using h
    have h2 : rpInt x = true ∧ rpInts xs = true := by simpa only [rpInts, Bool.and_eq_true] using h2
    simp only [toRs, PyData.shownAll, piled_cons, rpSzs]
    have := shown_len x h.1 h2.1
    have := showns_len xs h.2 h2.2
    omega
end

mutual
theorem toR_toD : ∀ p : PV, datP p = true → toR p = toD p
  | .non, _ => rfl
  | .bl _, _ => rfl
  | .int _, _ => rfl
  | .str _, _ => rfl
  | .lst xs, d => by simp only [toR, toD, toRs_toDs xs (by simpa only [datP] using d)]
  | .tup xs, d => by simp only [toR, toD, toRs_toDs xs (by simpa only [datP] using d)]
  | .dct _ _, d => by simp [datP] at d
  | .ob _ _, d => by simp [datP] at d
  | .scr _, d => by simp [datP] at d
  | .er _ _, d => by simp [datP] at d
  | .memo _ _, d => by simp [datP] at d
  | .loc _, d => by simp [datP] at d
theorem toRs_toDs : ∀ ps : List PV, datPs ps = true → toRs ps = toDs ps
  | [], _ => rfl
  | p :: ps, d => by
    simp only [datPs, Bool.and_eq_true] at d
    simp only [toRs, toDs, toR_toD p d.1, toRs_toDs ps d.2]
end
mutual
theorem no_dict : ∀ p : PV, (toR p).hasDict = false
  | .lst xs => by simp only [toR, PyData.hasDict, no_dicts xs]
  | .tup xs => by simp only [toR, PyData.hasDict, no_dicts xs]
  | .non => rfl
  | .bl _ => rfl
  | .int _ => rfl
  | .str _ => rfl
  | .dct _ _ => rfl
  | .ob _ _ => rfl
  | .scr _ => rfl
  | .er _ _ => rfl
  | .memo _ _ => rfl
  | .loc _ => rfl
theorem no_dicts : ∀ ps : List PV, PyData.hasDictAll (toRs ps) = false
  | [] => rfl
  | p :: ps => by simp only [toRs, PyData.hasDictAll, no_dict p, no_dicts ps, Bool.or_self]
end
mutual
theorem canshow : ∀ p : PV, rpInt p = true → (toR p).showable = true
  | .int i, h => by
    simp only [toR, PyData.showable]
    have h : i.natAbs < 10 ^ 200 := by simpa only [rpInt, decide_eq_true_eq] using h
    have : i.natAbs.log2 < 1920 := by
      by_cases hz : i.natAbs = 0
      · rw [hz]; decide
      · rw [Nat.log2_lt hz]
        exact Nat.lt_of_lt_of_le h (by decide +kernel)
    simpa using this
  | .lst xs, h => by simp only [toR, PyData.showable]; exact canshows xs (by simpa only [rpInt] using h)
  | .tup xs, h => by simp only [toR, PyData.showable]; exact canshows xs (by simpa only [rpInt] using h)
  | .non, _ => rfl
  | .bl _, _ => rfl
  | .str _, _ => rfl
  | .dct _ _, _ => rfl
  | .ob _ _, _ => rfl
  | .scr _, _ => rfl
  | .er _ _, _ => rfl
  | .memo _ _, _ => rfl
  | .loc _, _ => rfl
theorem canshows : ∀ ps : List PV, rpInts ps = true → PyData.showableAll (toRs ps) = true
  | [], _ => rfl
  | p :: ps, h => by
    have h : rpInt p = true ∧ rpInts ps = true := by simpa only [rpInts, Bool.and_eq_true] using h
    simp only [toRs, PyData.showableAll, canshow p h.1, canshows ps h.2, Bool.and_self]
end
section
variable {O : ObS} {W : Wd}
mutual
theorem Rep.tx : ∀ (p : PV) (x : V), Rep O W p x → rpTx p
  | .str s, _, h => by simpa only [rpTx] using (Rep.str_iff.mp h).2
  | .lst xs, _, h => by
    simp only [Rep] at h
    obtain ⟨_, vs, _, _, h⟩ := h
    simp only [rpTx]; exact RepL.tx xs vs h
  | .tup xs, _, h => by
    simp only [Rep] at h
    obtain ⟨_, vs, _, _, h⟩ := h
    simp only [rpTx]; exact RepL.tx xs vs h
  | .non, _, _ => by simp only [rpTx]
  | .bl _, _, _ => by simp only [rpTx]
  | .int _, _, _ => by simp only [rpTx]
  | .dct _ _, _, _ => by simp only [rpTx]
  | .ob _ _, _, _ => by simp only [rpTx]
  | .scr _, _, _ => by simp only [rpTx]
  | .er _ _, _, _ => by simp only [rpTx]
  | .memo _ _, _, _ => by simp only [rpTx]
  | .loc _, _, _ => by simp only [rpTx]
theorem RepL.tx : ∀ (ps : List PV) (vs : List V), RepL O W ps vs → rpTxs ps
  | [], _, _ => by simp only [rpTxs]
  | p :: ps, vs, h => by
    simp only [RepL] at h
    obtain ⟨v, r, _, h1, h2⟩ := h
    simp only [rpTxs]
    exact ⟨Rep.tx p v h1, RepL.tx ps r h2⟩
end
theorem RepB.tx {H : Hp} {p : PV} {x : V} (h : RepB O W H p x) : rpTx p := by
  rcases h with h | ⟨a, vs, ps, rfl, _, _, _, h⟩ | ⟨a, t, kvs, rfl, _⟩
  · exact Rep.tx p x h
  · simp only [rpTx]; exact RepL.tx ps vs h
  · simp only [rpTx]
end
def rRepr (K : PySem.W.Frag) : List V → Hp → VK → Prop := fun xs H Q => ∃ (x : V) (d : PyData), xs = [x] ∧ Dp K H x d ∧ d.hasDict = false ∧ d.showable = true ∧ d.shown.length ≤ sizeLine ∧ d.depth ≤ 62 ∧ Q (.str d.shown) H
section
variable {X : Cx} {Y : Cy} {e : Expr} {f : EX} {pos p : Pos}
end
end JP

set_option Elab.async false
set_option linter.all false
set_option maxRecDepth 100000
namespace JP
open PySem L2 PySem.Spec PyProof.Rows
/-- a def's promise where it is asked with no guard under way -/
structure FnOkG (P : Program) (w : World) (K : PySem.W.Frag) (mg : Str → Option Value) (base : Heap) (CX : CXT) (k : Nat) (f : Addr) (fd : FuncData) (ps : List Str) (sp : Sp) : Prop where
  cnt : ∀ vs H Q E, sp vs H Q E → vs.length = ps.length
  go : ∀ (B : Around) (os : List Env) (sh : Shared) (H : Hp) (as : Args) (us : List Value) (vs : List V) (Q : VK) (E : XK),
    B.guards = some [] → Room k B → Env0 P w K mg base B os sh H → BindsTo sh fd as (ps.zip us) → Vals vs us → sp vs H Q E →
    codeAny (model P w) B (.call (.ref f) as) (CR CX os P w H sh Q E) sh
section
variable {P : Program} {w : World} {K : PySem.W.Frag} {mg : Str → Option Value} {base : Heap} {CX : CXT} {k : Nat} {f : Addr} {fd : FuncData} {ps : List Str} {sp sp' : Sp}
theorem FnOkG.imp (F : FnOkG P w K mg base CX k f fd ps sp) (h : ∀ vs H Q E, sp' vs H Q E → sp vs H Q E) : FnOkG P w K mg base CX k f fd ps sp' :=
  ⟨fun vs H Q E z => F.cnt vs H Q E (h vs H Q E z), fun B os sh H as us vs Q E g r e b v z => F.go B os sh H as us vs Q E g r e b v (h vs H Q E z)⟩
theorem FnOkG.of (F : FnOk P w K mg base CX k f fd ps sp) : FnOkG P w K mg base CX k f fd ps sp :=
  ⟨F.len, fun B os sh H as us vs Q E _ r e b v z => F.run B os sh H as us vs Q E r e b v z⟩
end
section
variable {P : Program} {w : World} {K : PySem.W.Frag} {mg : Str → Option Value} {base : Heap} {O : ObS} {x qual : Str} {st : Stmt} {f : Addr} {fd : FuncData} {N ps : List Str} {k : Nat}
end
end JP

set_option Elab.async false
set_option linter.all false
set_option maxRecDepth 100000
namespace JP
open PySem L2
section
variable {X : Cx} {Y : Cy} {a b : Expr} {rest : List Expr} {f g : EX} {pos : Pos}
end
end JP

set_option Elab.async false
set_option linter.all false
set_option maxRecDepth 100000
namespace JP
open PySem L2
section
variable {O : ObS} {W : Wd} {H : Hp} {S : List Cl}
abbrev dataP (H : Hp) (K : PySem.W.Frag) (p : PV) (x : V) : Prop := Dp K H x (toD p) ∧ PyData.canLay0 (toD p) = true
end
section
variable {X : Cx} {Y : Cy} {a b o : Expr} {f g fo : EX} {pos : Pos}
end
section
variable {P : Program} {w : World} {K : PySem.W.Frag} {mg : Str → Option Value} {base : Heap} {O : ObS} {x qual : Str} {st : Stmt} {f : Addr} {fd : FuncData} {N ps : List Str} {k : Nat}
end
section
variable {X : Cx} {Y : Cy} {elt tg iter : Expr} {ifs : List Expr} {scope : Scope} {own : List (Str × Nat)} {pos : Pos} {g : TG} {b : BX} {it : AX} {t f : EX} {is : List Nat}
end
end JP

set_option Elab.async false
set_option linter.all false
set_option maxRecDepth 100000
namespace JP
open PySem L2
mutual
theorem shownQ_ok : ∀ p : PV, rpTx p → okT (toQ p).shown
  | .non, _ => by simp only [toQ, PyData.shown]; exact okT_of _
  | .bl b, _ => by simp only [toQ, PyData.shown]; cases b <;> exact okT_of _
  | .int i, _ => by simp only [toQ, PyData.shown]; exact okT_of _
  | .str s, h => by
    simp only [toQ, PyData.shown]
    exact okT_repr fun c hc => (show okS s by simpa only [rpTx] using h) c (by simpa using hc)
  | .lst xs, h => by
    simp only [toQ, PyData.shown]
    exact okT_app (okT_from _ 0 _ (okT_of _) (shownQs_ok xs (by simpa only [rpTx] using h))) (okT_of _)
  | .tup xs, h => by
    simp only [toQ, PyData.shown]
    exact okT_app (okT_app (okT_of _) (okT_join (okT_of _) _ (shownQs_ok xs (by simpa only [rpTx] using h)))) (okT_of _)
  | .dct _ _, _ => by
    simp only [toQ, PyData.shown, PyData.shownKv]
    exact okT_app (okT_app (okT_of _) (okT_join (okT_of _) _ (fun t ht => by cases ht))) (okT_of _)
  | .ob _ _, _ => by simp only [toQ, PyData.shown]; exact okT_of _
  | .scr _, _ => by simp only [toQ, PyData.shown]; exact okT_of _
  | .er _ _, _ => by simp only [toQ, PyData.shown]; exact okT_of _
  | .memo _ _, _ => by simp only [toQ, PyData.shown]; exact okT_of _
  | .loc _, _ => by simp only [toQ, PyData.shown]; exact okT_of _
theorem shownQs_ok : ∀ xs : List PV, rpTxs xs → ∀ t ∈ PyData.shownAll (toQs xs), okT t
  | [], _, t, h => by simp only [toQs, PyData.shownAll] at h; cases h
  | x :: xs, h, t, ht => by
    have h : rpTx x ∧ rpTxs xs := by simpa only [rpTxs] using h
    simp only [toQs, PyData.shownAll, List.mem_cons] at ht
    rcases ht with rfl | ht
    · exact shownQ_ok x h.1
    · exact shownQs_ok xs h.2 t ht
end
mutual
theorem shownQ_len : ∀ p : PV, rpTx p → rpInt p = true → (toQ p).shown.length ≤ rpSz p
  | .non, _, _ => by simp only [toQ, PyData.shown, rpSz]; decide
  | .bl b, _, _ => by simp only [toQ, PyData.shown, rpSz]; cases b <;> decide
  | .int i, _, h => by
    simp only [toQ, PyData.shown, rpSz]
    have h : i.natAbs < 10 ^ 200 := by simpa only [rpInt, decide_eq_true_eq] using h
    have e := int_text_length_le10 (k := 200) (by decide) h
    rw [ofString_length]; omega
  | .str s, h, _ => by
    simp only [toQ, PyData.shown, rpSz]
    have h : okS s := by simpa only [rpTx] using h
    have := StrLaws.reprText_len ⟨s.toArray⟩ fun c hc => by
      have := h c (by simpa using hc)
      omega
    simpa [PySem.Str.length] using this
  | .lst xs, h, h2 => by
    simp only [toQ, PyData.shown, rpSz]
    have h3 := shownQs_len xs (by simpa only [rpTx] using h) (by simpa only [rpInt] using h2)
    have h4 := from_len (PyData.shownAll (toQs xs)) 0 "["
    unfold listText
    rw [strLen_append]
    have e : ((("[" : String) : Str)).length = 1 := rfl
    have e2 : ((("]" : String) : Str)).length = 1 := rfl
    omega
  | .tup xs, h, h2 => by
    simp only [toQ, PyData.shown, rpSz]
    have h3 := shownQs_len xs (by simpa only [rpTx] using h) (by simpa only [rpInt] using h2)
    have h4 := join_len (PyData.shownAll (toQs xs))
    unfold tupleText
    rw [strLen_append, strLen_append]
    have e : ((("(" : String) : Str)).length = 1 := rfl
    have e2 : ((if (PyData.shownAll (toQs xs)).length == 1 then ",)" else ")" : String) : Str).length ≤ 2 := by split <;> decide
    omega
  | .dct _ _, _, _ => by simp only [toQ, PyData.shown, PyData.shownKv, rpSz]; decide
  | .ob _ _, _, _ => by simp only [toQ, PyData.shown, rpSz]; decide
  | .scr _, _, _ => by simp only [toQ, PyData.shown, rpSz]; decide
  | .er _ _, _, _ => by simp only [toQ, PyData.shown, rpSz]; decide
  | .memo _ _, _, _ => by simp only [toQ, PyData.shown, rpSz]; decide
  | .loc _, _, _ => by simp only [toQ, PyData.shown, rpSz]; decide
theorem shownQs_len : ∀ xs : List PV, rpTxs xs → rpInts xs = true → piled (PyData.shownAll (toQs xs)) ≤ rpSzs xs
  | [], _, _ => by simp [toQs, PyData.shownAll, piled]
  | x :: xs, h, h2 => by
    have h : rpTx x ∧ rpTxs xs := by simpa only [rpTxs] using h
    have h2 : rpInt x = true ∧ rpInts xs = true := by simpa only [rpInts, Bool.and_eq_true] using h2
    simp only [toQs, PyData.shownAll, piled_cons, rpSzs]
    have := shownQ_len x h.1 h2.1
    have := shownQs_len xs h.2 h2.2
    omega
end
mutual
theorem canshowQ : ∀ p : PV, rpInt p = true → (toQ p).showable = true
  | .int i, h => by
    simp only [toQ, PyData.showable]
    have h : i.natAbs < 10 ^ 200 := by simpa only [rpInt, decide_eq_true_eq] using h
    have : i.natAbs.log2 < 1920 := by
      by_cases hz : i.natAbs = 0
      · rw [hz]; decide
      · rw [Nat.log2_lt hz]
        exact Nat.lt_of_lt_of_le h (by decide +kernel)
    simpa using this
  | .lst xs, h => by simp only [toQ, PyData.showable]; exact canshowQs xs (by simpa only [rpInt] using h)
  | .tup xs, h => by simp only [toQ, PyData.showable]; exact canshowQs xs (by simpa only [rpInt] using h)
  | .non, _ => rfl
  | .bl _, _ => rfl
  | .str _, _ => rfl
  | .dct _ _, _ => by simp [toQ, PyData.showable, PyData.showableKv]
  | .ob _ _, _ => rfl
  | .scr _, _ => rfl
  | .er _ _, _ => rfl
  | .memo _ _, _ => rfl
  | .loc _, _ => rfl
theorem canshowQs : ∀ ps : List PV, rpInts ps = true → PyData.showableAll (toQs ps) = true
  | [], _ => rfl
  | p :: ps, h => by
    have h : rpInt p = true ∧ rpInts ps = true := by simpa only [rpInts, Bool.and_eq_true] using h
    simp only [toQs, PyData.showableAll, canshowQ p h.1, canshowQs ps h.2, Bool.and_self]
end

mutual
theorem depth_toQ : ∀ p : PV, PyData.depth (toQ p) = depQ p
  | .lst ps => by simp only [toQ, PyData.depth, depQ, depth_toQs ps]
  | .tup ps => by simp only [toQ, PyData.depth, depQ, depth_toQs ps]
  | .dct _ _ => by simp [toQ, PyData.depth, PyData.depthKv, depQ]
  | .non => rfl
  | .bl _ => rfl
  | .int _ => rfl
  | .str _ => rfl
  | .ob _ _ => rfl
  | .scr _ => rfl
  | .er _ _ => rfl
  | .memo _ _ => rfl
  | .loc _ => rfl
theorem depth_toQs : ∀ ps : List PV, PyData.depthAll (toQs ps) = depQs ps
  | [] => rfl
  | p :: ps => by simp only [toQs, PyData.depthAll, depQs, depth_toQ p, depth_toQs ps]
end
section
variable {X : Cx} {pins : List (Addr × Obj)} {σ : L2.St} {H : Hp} {s : Shared} {O : ObS} {W : Wd}
/-- how a value's text is come by -/
def RK (X : Cx) (h : Heap) (u : Value) (d : PyData) : Prop := ∃ as bs, Reads h u d as ∧ ReadAtMost h d.depth bs ∧ ReprK X.prog X.w bs h d.depth u d.shown
def RKs (X : Cx) (h : Heap) (us : List Value) (ds : List PyData) : Prop := ∃ as bs, ReadsAll h us ds as ∧ ReadAtMost h (PyData.depthAll ds) bs ∧ ReprAllK X.prog X.w bs h (PyData.depthAll ds) us (PyData.shownAll ds)
theorem none_below (h : Heap) (n : Nat) : ReadAtMost h n [] := fun _ z => by cases z
theorem rk_list {h : Heap} {a : Addr} {its : List Value} {ds : List PyData} (pl : PlainL h a its.toArray) (hk : RKs X h its ds) : RK X h (.ref a) (.list ds) := by
  obtain ⟨o, n, g1, g2, _, g3⟩ := pl
  obtain ⟨as, bs, ra, low, all⟩ := hk
  have rd : Reads h (.ref a) (.list ds) (a :: as) := Reads.list g1 g2 g3 ra
  have dd : (PyData.list ds).depth = PyData.depthAll ds + 1 := by simp only [PyData.depth]
  have out : a ∉ bs := not_mem_of_deeper rd (by omega) low
  refine ⟨a :: as, a :: bs, rd, ReadAtMost.cons rd (by omega) low, ?_⟩
  rw [dd]
  simp only [PyData.shown]
  match its, ra, all, g3 with
  | [], ra, _, g3 =>
    cases ra
    simp only [PyData.shownAll, listText_nil]
    exact ReprK.listEmpty g1 g2 g3
  | y :: ys, _, all, g3 => exact ReprK.list g1 g2 g3 out (by simpa using all.length_eq) fun i z e => all.item i z (by simpa using e)
theorem rk_tup {h : Heap} {a : Addr} {its : List Value} {ds : List PyData} {o : Obj} {n : Nat} (g1 : h.get? a = some o) (g2 : o.cls = .type "tuple") (g3 : o.data = .seq its.toArray n) (hk : RKs X h its ds) : RK X h (.ref a) (.tuple ds) := by
  obtain ⟨as, bs, ra, low, all⟩ := hk
  have rd : Reads h (.ref a) (.tuple ds) as := Reads.tuple g1 g2 g3 ra
  have dd : (PyData.tuple ds).depth = PyData.depthAll ds + 1 := by simp only [PyData.depth]
  have out : a ∉ bs := not_mem_of_deeper rd (by omega) low
  refine ⟨as, a :: bs, rd, ReadAtMost.cons rd (by omega) low, ?_⟩
  rw [dd]
  simp only [PyData.shown]
  exact ReprK.tuple g1 g2 g3 out all
theorem rk_dict {h : Heap} {a : Addr} {o : Obj} {n : Nat} (g1 : h.get? a = some o) (g2 : o.cls = .type "dict") (g3 : o.data = .dict #[] n) (hs : (a == sysModules) = false) : RK X h (.ref a) (.dict []) := by
  have rd : Reads h (.ref a) (.dict []) (a :: [] ++ []) := Reads.dict g1 g2 g3 .nil .nil
  have dd : (PyData.dict []).depth = 0 + 1 := by simp [PyData.depth, PyData.depthKv]
  refine ⟨_, [a], rd, ReadAtMost.cons rd (n := 0) (by omega) (none_below h 0), ?_⟩
  rw [dd]
  simp only [PyData.shown, PyData.shownKv]
  exact ReprK.dict g1 g2 g3 hs (by simp) .nil
mutual
theorem Rep.rk (I : Inv X pins σ H s) (h : Hold W H) (hK : O.K = X.K) : ∀ (p : PV) (x : V) (u : Value), datQ p = true → rpInt p = true → rpTx p → rpSz p ≤ 1000000 → Rep O W p x → RelV x u → RK X s.heap u (toQ p)
  | .non, x, u, _, _, _, _, r, ru => by
    have := Rep.non_iff.mp r
    subst this
    cases ru
    exact ⟨[], [], .none, none_below _ _, by simp only [toQ, PyData.shown]; exact .of_is ReprIs.none _ _ _⟩
  | .bl b, x, u, _, _, _, _, r, ru => by
    have := Rep.bl_iff.mp r
    subst this
    cases ru
    exact ⟨[], [], .bool b, none_below _ _, by simp only [toQ, PyData.shown]; exact .of_is (ReprIs.bool b) _ _ _⟩
  | .int i, x, u, _, hi, _, _, r, ru => by
    have := Rep.int_iff.mp r
    subst this
    obtain ⟨t, rfl⟩ := ru
    have c := canshowQ (.int i) hi
    simp only [toQ, PyData.showable, decide_eq_true_eq] at c
    exact ⟨[], [], .int i t, none_below _ _, by simp only [toQ, PyData.shown]; exact .of_is (ReprIs.int t c) _ _ _⟩
  | .str y, x, u, _, hi, ht, hz, r, ru => by
    obtain ⟨rfl, _⟩ := Rep.str_iff.mp r
    obtain ⟨t, rfl⟩ := ru
    have l := shownQ_len (.str y) ht hi
    refine ⟨[], [], .str _ t, none_below _ _, ?_⟩
    simp only [toQ, PyData.shown] at l ⊢
    have l2 : (reprText (tx y)).length ≤ rpSz (.str y) := l
    exact .of_is (ReprIs.str _ t (by rw [sizeLine_eq]; omega)) _ _ _
  | .lst ps, x, u, d, hi, ht, hz, r, ru => by
    obtain ⟨a, vs, rfl, l, rl⟩ := Rep.lst_iff.mp r
    cases ru
    have sq := hK ▸ l.sq h
    obtain ⟨its, rv, pl, _⟩ := I.list sq
    simp only [toQ]
    exact rk_list pl (RepL.rk I h hK ps vs its (by simpa only [datQ] using d) (by simpa only [rpInt] using hi) (by simpa only [rpTx] using ht) (by simp only [rpSz] at hz; omega) rl rv)
  | .tup ps, x, u, d, hi, ht, hz, r, ru => by
    simp only [Rep] at r
    obtain ⟨a, vs, rfl, l, rl⟩ := r
    cases ru
    obtain ⟨its, rv, tu, _⟩ := I.tuple (SqT.of (l.sq h))
    simp only [toQ]
    have hk := RepL.rk I h hK ps vs its (by simpa only [datQ] using d) (by simpa only [rpInt] using hi) (by simpa only [rpTx] using ht) (by simp only [rpSz] at hz; omega) rl rv
    obtain ⟨o, ho, hc, n, hd⟩ := tu
    exact rk_tup ho hc hd hk
  | .dct t kvs, x, u, d, _, _, _, r, ru => by
    simp only [datQ, Bool.and_eq_true, Bool.not_eq_true', List.isEmpty_iff] at d
    obtain ⟨rfl, rfl⟩ := d
    obtain ⟨a, rfl, dr⟩ := r.dctO h
    cases ru
    rcases dr with ⟨_, ks, rd, rk⟩ | ⟨z, _⟩
    · simp only [RepK] at rk
      subst rk
      obtain ⟨_, hs, vs, kv, o, es, ep, g1, g2, g3, _, pr, _⟩ := dk_rd I.hok rd
      cases kv
      have := pr.length
      have : es = #[] := by
        simp at this
        simpa using this
      subst this
      simp only [toQ]
      exact rk_dict g1 g2.1 g3 hs
    · cases z
  | .ob _ _, _, _, d, _, _, _, _, _ => by simp [datQ] at d
  | .scr _, _, _, d, _, _, _, _, _ => by simp [datQ] at d
  | .er _ _, _, _, d, _, _, _, _, _ => by simp [datQ] at d
  | .memo _ _, _, _, d, _, _, _, _, _ => by simp [datQ] at d
  | .loc _, _, _, d, _, _, _, _, _ => by simp [datQ] at d
theorem RepL.rk (I : Inv X pins σ H s) (h : Hold W H) (hK : O.K = X.K) : ∀ (ps : List PV) (vs : List V) (us : List Value), datQs ps = true → rpInts ps = true → rpTxs ps → rpSzs ps ≤ 1000000 → RepL O W ps vs → Vals vs us → RKs X s.heap us (toQs ps)
  | [], vs, us, _, _, _, _, r, ru => by
    simp only [RepL] at r
    subst r
    cases ru
    exact ⟨[], [], .nil, none_below _ _, by simp only [toQs, PyData.shownAll]; exact .nil⟩
  | p :: ps, vs, us, d, hi, ht, hz, r, ru => by
    simp only [RepL] at r
    obtain ⟨v, vr, rfl, r1, r2⟩ := r
    simp only [datQs, Bool.and_eq_true] at d
    have hi : rpInt p = true ∧ rpInts ps = true := by simpa only [rpInts, Bool.and_eq_true] using hi
    have ht : rpTx p ∧ rpTxs ps := by simpa only [rpTxs] using ht
    simp only [rpSzs] at hz
    cases ru with
    | cons u1 u2 =>
      obtain ⟨as, bs, a1, a2, a3⟩ := Rep.rk I h hK p v _ d.1 hi.1 ht.1 (by omega) r1 u1
      obtain ⟨cs, ds, b1, b2, b3⟩ := RepL.rk I h hK ps vr _ d.2 hi.2 ht.2 (by omega) r2 u2
      have dd : PyData.depthAll (toQ p :: toQs ps) = max (toQ p).depth (PyData.depthAll (toQs ps)) := by simp only [PyData.depthAll]
      simp only [toQs]
      refine ⟨as ++ cs, bs ++ ds, .cons a1 b1, ?_, ?_⟩
      · rw [dd]
        exact (a2.mono (Nat.le_max_left _ _)).append (b2.mono (Nat.le_max_right _ _))
      · rw [dd]
        simp only [PyData.shownAll]
        exact .cons ((a3.more fun z hz => List.mem_append_left _ hz).level_le (Nat.le_max_left _ _)) (b3.more_le (fun z hz => List.mem_append_right _ hz) (Nat.le_max_right _ _))
end
theorem RepB.rk (I : Inv X pins σ H s) (h : Hold W H) (hK : O.K = X.K) {p : PV} {x : V} {u : Value} (d : datQ p = true) (hi : rpInt p = true) (hz : rpSz p ≤ 1000000) (r : RepB O W H p x) (ru : RelV x u) : RK X s.heap u (toQ p) := by
  have ht := r.tx
  rcases r with r | ⟨a, vs, ps, rfl, rfl, e3, e4, rl⟩ | ⟨a, t, kvs, rfl, rfl, _, dr⟩
  · exact Rep.rk I h hK p x u d hi ht hz r ru
  · cases ru
    obtain ⟨its, rv, pl, _⟩ := I.list (SqL.of e3)
    simp only [toQ]
    exact rk_list pl (RepL.rk I h hK ps vs its (by simpa only [datQ] using d) (by simpa only [rpInt] using hi) (by simpa only [rpTx] using ht) (by simp only [rpSz] at hz; omega) rl rv)
  · simp only [datQ, Bool.and_eq_true, Bool.not_eq_true', List.isEmpty_iff] at d
    obtain ⟨rfl, rfl⟩ := d
    cases ru
    rcases dr with ⟨_, ks, rd, rk⟩ | ⟨z, _⟩
    · simp only [RepK] at rk
      subst rk
      obtain ⟨_, hs, vs, kv, o, es, ep, g1, g2, g3, _, pr, _⟩ := dk_rd I.hok rd
      cases kv
      have := pr.length
      have : es = #[] := by
        simp at this
        simpa using this
      subst this
      simp only [toQ]
      exact rk_dict g1 g2.1 g3 hs
    · cases z
section
variable {A : Around} {E : Value → Shared → Prop} {Q : Value → Shared → Prop} {a : Addr} {its : List Value} {ds : List PyData} {o : Obj} {n : Nat}
end
def rReprQ (X : Cx) (O : ObS) : List V → Hp → VK → Prop := fun xs H Q => ∃ (W : Wd) (p : PV) (x : V), xs = [x] ∧ O.K = X.K ∧ Hold W H ∧ RepB O W H p x ∧ datQ p = true ∧ rpInt p = true ∧ rpSz p ≤ 1000000 ∧ depQ p ≤ 60 ∧ Q (.str (toQ p).shown) H
end
section
variable {X : Cx} {Y : Cy} {e : Expr} {f : EX} {pos p : Pos}
end
end JP

set_option linter.all false
namespace JP
open PySem
def exTb : List (String × Addr) → String → Option Addr
  | [], _ => none
  | (m, C) :: r, n => if n = m then some C else exTb r n
@[simp] theorem exTb_nil (n : String) : exTb [] n = none := rfl
@[simp] theorem exTb_cons (m : String) (C : Addr) (r : List (String × Addr)) (n : String) : exTb ((m, C) :: r) n = if n = m then some C else exTb r n := rfl
inductive AllT (P : String → Addr → Prop) : List (String × Addr) → Prop
  | nil : AllT P []
  | cons {m : String} {C : Addr} {r : List (String × Addr)} : P m C → AllT P r → AllT P ((m, C) :: r)
theorem AllT.go {P : String → Addr → Prop} : ∀ {l : List (String × Addr)}, AllT P l → ∀ n C, exTb l n = some C → P n C
  | _, .nil, n, C, h => by cases h
  | _, .cons (m := m) (C := D) hp hr, n, C, h => by
    rw [exTb_cons] at h
    by_cases e : n = m
    · rw [if_pos e] at h; cases h; rw [e]; exact hp
    · rw [if_neg e] at h; exact hr.go n C h
end JP

set_option linter.all false
namespace JP
open PySem L2
section
variable {X : Cx} {Y : Cy} {a b o : Expr} {f g : EY} {pos : Pos}
end
end JP

set_option linter.all false
namespace JP
open PySem L2
/-- the def of that name keeps its promise where no guard is under way -/
def GFnG (P : Program) (w : World) (K : PySem.W.Frag) (mg : Str → Option Value) (base : Heap) (x : Str) (k : Nat) (sp : Sp) : Prop :=
  ∃ (f : Addr) (fd : FuncData) (ps : List Str), FnOkG P w K mg base (L2.CX P w) k f fd ps sp ∧ mg x = some (.ref f) ∧ PySem.W.keepIn K (.ref f) = true ∧ Binds K fd ps []
section
variable {X : Cx} {Y : Cy} {CX : CXT} {k n : Nat} {f : Addr} {fd : FuncData} {ps : List Str} {sp : Sp} {E : St → XK} {x : Str} {p pos : Pos} {e : Expr} {es : List Expr} {t : TA} {ga : AY} {fa : AX} {md : List Bool}
end
end JP

set_option Elab.async false
set_option linter.all false
set_option maxRecDepth 100000
namespace JP
open PySem L2 PyProof.Rows
def iiK (p : Int × Int) : List Key := [.inl p.1, .inl p.2]
def IIat (H : Hp) (p : Int × Int) (b : Addr) : Prop := H b = some (.tup [.int p.1, .int p.2])
def encII (b : Int × Int) : PyData := .tuple [.int b.1, .int b.2]
def IIv (H : Hp) (v : Value) (p : Int × Int) : Prop := ∃ q, v = .ref q ∧ IIat H p q
section
variable {X : Cx} {Y : Cy} {e : Expr} {f : EX} {pos p : Pos}
end
section
variable {X : Cx} {Y : Cy} {o v : Expr} {fo fv : EX} {pos apos cpos : Pos}
end
section
variable {X : Cx} {Y : Cy} {e : Expr} {f : EX} {fl fh : OX} {lo hi : Option Expr} {pos p2 : Pos}
end
section
variable {X : Cx} {Y : Cy} {e : Expr} {f : EX} {x : Str} {pos pos' : Pos}
end
section
variable {X : Cx} {Y : Cy} {tg o : Expr} {pos : Pos} {fo : EX} {b : BX} {st : SX}
end
section
variable {X : Cx} {Y : Cy} {o n v : Expr} {fo fn fv : EX} {pos apos cpos : Pos}
end
end JP

set_option linter.all false
namespace JP
/-- the store, the locked dict n as it was -/
def clU (n : Nat) (S : List Cl) : Option (List Cl) := match S[n]? with
  | some (.w t kvs) => some (S.set n (.d t kvs))
  | _ => none
def onU (s n : Nat) (k : Ev → Ou) (e : Ev) : Ou := match sto s e with
  | some S => match clU n S with
    | some S2 => k (setS s S2 e)
    | none => .bad
  | none => .bad
def unC (s n : Nat) : Ou → Ou
  | .nx e => onU s n .nx e
  | .bk e => onU s n .bk e
  | .ct e => onU s n .ct e
  | .rt p => .rt p
  | .rf p => .rf p
  | .rs p S => match clU n S with
    | some S2 => .rs p S2
    | none => .bad
  | .rg p S => match clU n S with
    | some S2 => .rg p S2
    | none => .bad
  | .ex _ _ => .bad
  | .bad => .bad
/-- a statement within which the dict of the store that f tells is only read -/
def sLkC (s : Nat) (f : EX) (st : Nat → SX) : SX := fun env => match f env with
  | .ok (.loc n) => match sto s env with
    | some S => match S[n]? with
      | some (.d t kvs) => unC s n (st n (setS s (S.set n (.w t kvs)) env))
      | _ => .bad
    | none => .bad
  | _ => .bad
def clW : Option Cl → R (List (PV × PV))
  | some (.w _ kvs) => .ok kvs
  | _ => .bad
def clW0 : Option Cl → R (List (PV × PV))
  | some (.w false kvs) => .ok kvs
  | _ => .bad
@[simp] theorem clW_w (t : Bool) (kvs : List (PV × PV)) : clW (some (.w t kvs)) = .ok kvs := rfl
@[simp] theorem clW0_w (kvs : List (PV × PV)) : clW0 (some (.w false kvs)) = .ok kvs := rfl
/-- the keys of the locked dict n -/
def lKn (s n : Nat) (f : EX) : AX := fun env => (f env).bind fun p => locS p (fun m => if m = n then onS (sto s env) (fun S => (clW S[m]?).bind fun kvs => .ok (kvs.map Prod.fst)) .bad else .bad) .bad
/-- the pairs of a locked dict -/
def lItC (s : Nat) (f : EX) : AX := fun env => (f env).bind fun p => locS p (fun m => onS (sto s env) (fun S => (clW0 S[m]?).bind fun kvs => .ok (kvs.map fun kv => .tup [kv.1, kv.2])) .bad) .bad
def lItm : PV → Option (List PV)
  | .dct false kvs => some (kvs.map fun kv => .tup [kv.1, kv.2])
  | _ => none
@[simp] theorem lItm_dct (kvs : List (PV × PV)) : lItm (.dct false kvs) = some (kvs.map fun kv => .tup [kv.1, kv.2]) := rfl
@[simp] theorem lKn_app (s n : Nat) (f : EX) (env : Ev) : lKn s n f env = (f env).bind fun p => locS p (fun m => if m = n then onS (sto s env) (fun S => (clW S[m]?).bind fun kvs => .ok (kvs.map Prod.fst)) .bad else .bad) .bad := rfl
@[simp] theorem lItC_app (s : Nat) (f : EX) (env : Ev) : lItC s f env = (f env).bind fun p => locS p (fun m => onS (sto s env) (fun S => (clW0 S[m]?).bind fun kvs => .ok (kvs.map fun kv => .tup [kv.1, kv.2])) .bad) .bad := rfl
/-- t + u, neither empty -/
def pCatT : PV → PV → Option PV
  | .tup xs, .tup ys => if xs ≠ [] ∧ ys ≠ [] ∧ xs.length + ys.length ≤ 1000000 then some (.tup (xs ++ ys)) else none
  | _, _ => none
@[simp] theorem pCatT_0 (xs ys : List PV) : pCatT (.tup xs) (.tup ys) = if xs ≠ [] ∧ ys ≠ [] ∧ xs.length + ys.length ≤ 1000000 then some (.tup (xs ++ ys)) else none := rfl
def okOut : Sl → Bool
  | .u => true
  | .v _ => true
  | _ => false
def consY (y : PV) : RE (List PV) → RE (List PV)
  | .ok r e => .ok (y :: r) e
  | _ => .bad
@[simp] theorem consY_ok (y : PV) (r : List PV) (e : Ev) : consY y (.ok r e) = .ok (y :: r) e := rfl
def testY (q : RE PV) (a b : Ev → RE (List PV)) : RE (List PV) := match q with
  | .ok (.bl true) e => a e
  | .ok (.bl false) e => b e
  | _ => .bad
@[simp] theorem testY_t (e : Ev) (a b : Ev → RE (List PV)) : testY (.ok (.bl true) e) a b = a e := rfl
@[simp] theorem testY_f (e : Ev) (a b : Ev → RE (List PV)) : testY (.ok (.bl false) e) a b = b e := rfl
def compFY (i : Nat) (t : EY) (f : EX) : List PV → Ev → RE (List PV)
  | [], env => .ok [] env
  | p :: ps, env => testY (t (env.set i (.v p))) (fun e => match f e with
      | .ok y => consY y (compFY i t f ps e)
      | _ => .bad) (fun e => compFY i t f ps e)
def outY (i : Nat) (sl : Sl) : RE (List PV) → RE (List PV)
  | .ok zs e => .ok zs (e.set i sl)
  | _ => .bad
@[simp] theorem outY_ok (i : Nat) (sl : Sl) (zs : List PV) (e : Ev) : outY i sl (.ok zs e) = .ok zs (e.set i sl) := rfl
def compKY (i : Nat) (t : EY) (f : EX) (env : Ev) (ps : List PV) : RE (List PV) := match env[i]? with
  | some sl => if okOut sl = true ∧ ps.length ≤ 1000000 then outY i sl (compFY i t f ps (env.set i .u)) else .bad
  | none => .bad
def aCompY (i : Nat) (it : AX) (t : EY) (f : EX) : AY := fun env => (up (it env) env).bind fun ps e => compKY i t f e ps
/-- f(..).append(x), the list a new one that is let go -/
def eFap (f : AX) (g : EX) : EX := fun env => (f env).bind fun ps => if ps.length < 1000000 then (g env).bind fun _ => .ok .non else .bad
@[simp] theorem eFap_app (f : AX) (g : EX) (env : Ev) : eFap f g env = (f env).bind fun ps => if ps.length < 1000000 then (g env).bind fun _ => .ok .non else .bad := rfl
/-- xs[k] = v, v may change the store -/
def putY (i : Nat) (fk : EX) (v : PV) (env : Ev) : Ou := match env[i]? with
  | some (.o xs) => thenO (fk env) env fun k => (match putAt xs v k with | some ys => .nx (env.set i (.o ys)) | none => .bad)
  | _ => .bad
def sPutY (i : Nat) (fk : EX) (fv : EY) : SX := fun env => thenY (fv env) fun v e => putY i fk v e
@[simp] theorem sPutY_app (i : Nat) (fk : EX) (fv : EY) (env : Ev) : sPutY i fk fv env = thenY (fv env) fun v e => putY i fk v e := rfl
def elemY (q : RE PV) (a : PV → Ev → RE (List PV)) : RE (List PV) := match q with
  | .ok y e => a y e
  | _ => .bad
@[simp] theorem elemY_ok (y : PV) (e : Ev) (a : PV → Ev → RE (List PV)) : elemY (.ok y e) a = a y e := rfl
def compFZ (is : List Nat) (b : BX) (t f : EY) : List PV → Ev → RE (List PV)
  | [], env => .ok [] env
  | p :: ps, env => match b p (wipeE env is) with
    | .ok e => testY (t e) (fun e2 => elemY (f e2) fun y e3 => consY y (compFZ is b t f ps e3)) (fun e2 => compFZ is b t f ps e2)
    | _ => .bad
def rstE (env : Ev) (is : List Nat) (e : Ev) : Ev := is.foldl (fun e i => e.set i ((env[i]?).getD .u)) e
def outZ (env : Ev) (is : List Nat) : RE (List PV) → RE (List PV)
  | .ok zs e => .ok zs (rstE env is e)
  | _ => .bad
@[simp] theorem outZ_ok (env : Ev) (is : List Nat) (zs : List PV) (e : Ev) : outZ env is (.ok zs e) = .ok zs (rstE env is e) := rfl
def okOuts (env : Ev) (is : List Nat) : Bool := is.all fun i => match env[i]? with
  | some sl => okOut sl
  | none => false
def compKZ (is : List Nat) (b : BX) (t f : EY) (env : Ev) (ps : List PV) : RE (List PV) := if okOuts env is = true ∧ ps.length ≤ 1000000 then outZ env is (compFZ is b t f ps env) else .bad
def aCompZ (is : List Nat) (b : BX) (it : AX) (t f : EY) : AY := fun env => (up (it env) env).bind fun ps e => compKZ is b t f e ps
/-- no place but cells -/
def flP : PV → Bool
  | .non => true
  | .bl _ => true
  | .int _ => true
  | .str _ => true
  | .loc _ => true
  | _ => false
def flC : Cl → Bool
  | .l xs => xs.all flP
  | .d _ kvs => kvs.all fun kv => flP kv.2
  | .o _ fs => fs.all fun f => flP f.2
  | .w _ _ => false
def lndK (s : Nat) (env : Ev) : RS PV → RE PV
  | .ok p S => if (flP p && S.all flC) = true then .ok p (setS s S env) else .bad
  | _ => .bad
@[simp] theorem lndK_ok (s : Nat) (env : Ev) (p : PV) (S : List Cl) : lndK s env (.ok p S) = if (flP p && S.all flC) = true then .ok p (setS s S env) else .bad := rfl
/-- f(.., xs, ..): the list of slot i, that stays one's own -/
def eLnd (s : Nat) (m : MS) (i : Nat) (fa : AX) : EY := fun env => match env[i]? with
  | some (.o _) => (match fa (frz i env) with
    | .ok ps => onS (sto s env) (fun S => lndK s env (m S ps)) .bad
    | _ => .bad)
  | _ => .bad
@[simp] theorem eLnd_app (s : Nat) (m : MS) (i : Nat) (fa : AX) (env : Ev) : eLnd s m i fa env = (match env[i]? with
  | some (.o _) => (match fa (frz i env) with
    | .ok ps => onS (sto s env) (fun S => lndK s env (m S ps)) .bad
    | _ => .bad)
  | _ => .bad) := rfl
/-- for over a new list whose making changes the store -/
def sForY (b : BX) (f : EY) (s : SX) : SX := fun env => thenY (f env) fun p e => match iSeq p with
  | some ps => forF b s ps e
  | none => .bad
/-- an error made by hand -/
def eEr (c : String) (fs : List String) (fa : AX) : EX := fun env => (fa env).bind fun ps => .ok (.er c (fs.zip ps))
@[simp] theorem eEr_app (c : String) (fs : List String) (fa : AX) (env : Ev) : eEr c fs fa env = (fa env).bind fun ps => .ok (.er c (fs.zip ps)) := rfl
/-- !=, two empty dicts too -/
def pNeE : PV → PV → Option PV
  | .dct false [], .dct false [] => some (.bl false)
  | p, q => pNe p q
@[simp] theorem pNeE_dd : pNeE (.dct false []) (.dct false []) = some (.bl false) := rfl
/-- dict(zip(a, b)) of two plain texts -/
def pDz : PV → PV → Option PV
  | .str a, .str b => if a.Nodup ∧ (∀ c ∈ a, c < 128) ∧ (∀ c ∈ b, c < 128) ∧ a.length = b.length ∧ 0 < a.length ∧ a.length ≤ 1000 then some (.dct false ((a.zip b).map fun p => (.str [p.1], .str [p.2]))) else none
  | _, _ => none
@[simp] theorem pDz_ss (a b : List Nat) : pDz (.str a) (.str b) = if a.Nodup ∧ (∀ c ∈ a, c < 128) ∧ (∀ c ∈ b, c < 128) ∧ a.length = b.length ∧ 0 < a.length ∧ a.length ≤ 1000 then some (.dct false ((a.zip b).map fun p => (.str [p.1], .str [p.2]))) else none := rfl
/-- a.find(one sign) -/
def pFind : PV → PV → Option PV
  | .str a, .str [c] => some (.int (if c ∈ a then (a.idxOf c : Nat) else -1))
  | _, _ => none
@[simp] theorem pFind_ss (a : List Nat) (c : Nat) : pFind (.str a) (.str [c]) = some (.int (if c ∈ a then (a.idxOf c : Nat) else -1)) := rfl
/-- a method that changes nothing, of an object that a changing expression gives -/
def eMthY (kd : Nat) (m : List PV → R PV) (fo : EY) : EY := fun env => (fo env).bind fun x e => if isOb kd x then up (m [x]) e else .bad
@[simp] theorem eMthY_app (kd : Nat) (m : List PV → R PV) (fo : EY) (env : Ev) : eMthY kd m fo env = (fo env).bind fun x e => if isOb kd x then up (m [x]) e else .bad := rfl
def lMthY (kd : Nat) (m : List PV → R (List PV)) (fo : EY) : AY := fun env => (fo env).bind fun x e => if isOb kd x then up (m [x]) e else .bad
@[simp] theorem lMthY_app (kd : Nat) (m : List PV → R (List PV)) (fo : EY) (env : Ev) : lMthY kd m fo env = (fo env).bind fun x e => if isOb kd x then up (m [x]) e else .bad := rfl
def compX (b : BX) (t f : EX) : List PV → Ev → R (List PV)
  | [], _ => .ok []
  | p :: ps, env => match b p env with
    | .ok e => (match t e with
      | .ok (.bl true) => (f e).bind fun y => (compX b t f ps env).bind fun r => .ok (y :: r)
      | .ok (.bl false) => compX b t f ps env
      | _ => .bad)
    | _ => .bad
def compXK (is : List Nat) (b : BX) (t f : EX) (env : Ev) (ps : List PV) : R (List PV) := if ps.length ≤ 1000000 then compX b t f ps (wipeE env is) else .bad
def aCompX (is : List Nat) (b : BX) (it : AX) (t f : EX) : AX := fun env => (it env).bind (compXK is b t f env)
@[simp] theorem aCompX_app (is : List Nat) (b : BX) (it : AX) (t f : EX) (env : Ev) : aCompX is b it t f env = (it env).bind (compXK is b t f env) := rfl
end JP

set_option Elab.async false
set_option linter.all false
set_option maxRecDepth 100000
set_option maxHeartbeats 4000000
namespace JP
open PySem L2 PyProof.Rows
section
variable {Y Y1 Y2 : Cy} {W W' : Wd} {H H' : Hp} {σ : L2.St} {env : Ev} {S : List Cl} {d : Addr} {n s : Nat} {o o' u : HO} {c' : Cl}
theorem lkc_hla {Y : Cy} {d : Addr} {od : Obj} : ∀ j a, Y.la j = some a → ∃ o, upd Y.H0 d (.frz od u) a = some o ∧ ((∃ vs, o = .lst vs) ∨ ∃ od u, o = .frz od u) := by
  intro j a e
  by_cases z : a = d
  · subst z
    exact ⟨_, upd_same, .inr ⟨od, u, rfl⟩⟩
  · rw [upd_ne z]
    exact Y.hla j a e
def lkcY (Y : Cy) (W : Wd) (d : Addr) (od : Obj) (u : HO) (h : Hold (lkW Y.W0 W d) (upd Y.H0 d (.frz od u))) : Cy := Y.lkd (lkW Y.W0 W d) (upd Y.H0 d (.frz od u)) h Y.la lkc_hla
end
section
variable {X : Cx} {Y : Cy} {st : Stmt} {f : EX} {tg e o : Expr} {pos apos cpos p : Pos}
/-- .. in any locked context in which the cell n is locked -/
def tAnyC (Y : Cy) (s : Nat → SX) : TS := fun D σ H => ∃ n W0 H0 h0 la hla d od u, W0 d = some (LocF n) ∧ H0 d = some (.frz od u) ∧ tS (Y.lkd W0 H0 h0 la hla) (s n) D σ H
theorem RepK.pair {O : ObS} {W : Wd} : ∀ {kvs : List (PV × PV)} {ks : List (Key × V)} {i : Nat} {k : Key} {v : V}, RepK O W kvs ks → ks[i]? = some (k, v) → ∃ p q, kvs[i]? = some (p, q) ∧ kRep p k ∧ Rep O W q v
  | [], _, i, k, v, h, e => by rw [RepK.nil_iff.mp h] at e; simp at e
  | (q, z') :: kvs, _, i, k, v, h, e => by
    obtain ⟨k', v', r, e', a1, a2, a3⟩ := RepK.cons_iff.mp h
    subst e'
    cases i with
    | zero =>
      simp at e
      exact ⟨q, z', rfl, by rw [← e.1]; exact a1, by rw [← e.2]; exact a2⟩
    | succ i =>
      obtain ⟨p, q2, h1, h2⟩ := RepK.pair a3 (i := i) (by simpa using e)
      exact ⟨p, q2, by simpa using h1, h2⟩
end

/-- the pairs of a dict, each a new tuple -/
def LaidP : List (Key × V) → List Addr → Hp → Hp → Prop
  | [], [], H, H2 => H2 = H
  | kv :: kvs, a :: as, H, H2 => H a = none ∧ LaidP kvs as (upd H a (.tup [kV kv.1, kv.2])) H2
  | _, _, _, _ => False
theorem LaidP.other {b : Addr} : ∀ {kvs : List (Key × V)} {as : List Addr} {H H2 : Hp}, LaidP kvs as H H2 → b ∉ as → H2 b = H b
  | [], [], _, _, h, _ => by rw [show _ = _ from h]
  | [], _ :: _, _, _, h, _ => h.elim
  | _ :: _, [], _, _, h, _ => h.elim
  | kv :: kvs, a :: as, H, H2, h, n => by
    rw [h.2.other (List.not_mem_of_not_mem_cons n), upd_ne (fun z => n (by rw [z]; exact List.mem_cons_self))]
def tLI (td : TE) : TE := fun σ H Q => td σ H fun x H1 => ∃ d kvs, x = .ref d ∧ Rd H1 d (.dK kvs) ∧ ∀ (as : List Addr) (p : Addr) H2, H1 p = none → p ∉ as → LaidP kvs as H1 H2 → Q (.ref p) (upd H2 p (.lst (as.map V.ref)))
section
variable {X : Cx} {Y : Cy} {o : Expr} {f : EX} {td : TE} {pos apos cpos p : Pos}
end
section
variable {X : Cx} {Y : Cy} {a b : Expr} {f g : EX} {pos : Pos}
end
end JP

set_option Elab.async false
set_option linter.all false
set_option maxRecDepth 100000
set_option maxHeartbeats 4000000
namespace JP
open PySem L2 PyProof.Rows
section
variable {Y Y1 Y2 : Cy} {W W0 : Wd} {H H' H0 H0' : Hp} {σ : L2.St} {env : Ev} {D : Addr}
theorem wd_hla {vs : List V} : ∀ j a, Y.la j = some a → ∃ o, upd Y.H0 D (.lst vs) a = some o ∧ ((∃ vs, o = .lst vs) ∨ ∃ od u, o = .frz od u) := by
  intro j a e
  by_cases z : a = D
  · subst z
    exact ⟨_, upd_same, .inl ⟨_, rfl⟩⟩
  · rw [upd_ne z]
    exact Y.hla j a e
def wdY (Y : Cy) (D : Addr) (vs : List V) (h : Hold Y.W0 (upd Y.H0 D (.lst vs))) : Cy := Y.lkd Y.W0 (upd Y.H0 D (.lst vs)) h Y.la wd_hla
/-- a rule that holds with any list in the making -/
def tAnyT (Y : Cy) (t : EY) : TT := fun σ H Q => ∃ W0 H0 h0 la hla, tTY (Y.lkd W0 H0 h0 la hla) t σ H Q
def tAnyP (Y : Cy) (f : EX) : TE := fun σ H Q => ∃ W0 H0 h0 la hla, tP (Y.lkd W0 H0 h0 la hla) f σ H Q
end
section
variable {X : Cx} {Y : Cy} {elt iter : Expr} {ifs : List Expr} {scope : Scope} {pos tp : Pos} {it : AX} {t : EY} {f : EX}
end
end JP
namespace JP
open PySem L2 PyProof.Rows
def tAnyE (Y : Cy) (f : EY) : TE := fun σ H Q => ∃ W0 H0 h0 la hla, tPY (Y.lkd W0 H0 h0 la hla) f σ H Q
section
variable {Y : Cy}
end
section
variable {X : Cx} {Y : Cy} {elt tg iter : Expr} {ifs : List Expr} {scope : Scope} {pos : Pos} {it : AX} {t f : EY} {g : TG} {b : BX}
end
end JP

set_option Elab.async false
set_option linter.all false
set_option maxRecDepth 100000
set_option maxHeartbeats 4000000
namespace JP
open PySem L2
section
variable {O : ObS} {Y : Cy} {W W' : Wd} {H H' : Hp} {σ : L2.St} {env : Ev} {a : Addr} {vs : List V}
/-- W without what it knows of a -/
def rmW (W : Wd) (a : Addr) : Wd := fun b => if b = a then none else W b
end
section
variable {X : Cx} {Y : Cy} {e : Expr} {es : List Expr} {fa : AX} {pos p : Pos} {md : List Bool} {x : Str} {k s i n : Nat}
end
end JP
namespace JP
open PySem L2
section
variable {X : Cx} {Y : Cy} {tg iter : Expr} {pos : Pos} {f : EY}
def tIlY (Y : Cy) (f : EY) : TI := fun σ H R => ∃ W env, EnvR Y W H σ env ∧ RPY Y σ W (f env) fun W1 H1 _ p => ∃ ps, iSeq p = some ps ∧ ∀ J, WalkP Y.O (SL Y W1) J ps → R J H1
end
end JP

set_option Elab.async false
set_option linter.all false
set_option maxRecDepth 100000
set_option maxHeartbeats 4000000
namespace JP
open PySem L2
section
variable {X : Cx} {Y : Cy} {e e2 : Expr} {f g : EX} {x : Str} {p pos pos2 : Pos} {C : Addr} {k : Nat}
end
end JP

set_option Elab.async false
set_option linter.all false
set_option maxRecDepth 100000
set_option maxHeartbeats 4000000
namespace JP
open PySem L2
section
variable {X : Cx} {Y : Cy} {a b : Expr} {f g : EX} {pos : Pos}
def rNeDR : R2 := fun x y H Q => ∃ a b, x = .ref a ∧ y = .ref b ∧ Rd H a (.dK []) ∧ Rd H b (.dK []) ∧ Q (.bl false) H
end
end JP

set_option Elab.async false
set_option linter.all false
set_option maxRecDepth 100000
set_option maxHeartbeats 4000000
namespace JP
open PySem L2
section
variable {prog : Program} {w : World} {A : Around} {E : Value → Shared → Prop} {g : Array GenState} {dr : Drawn} {os : OsState}
abbrev ASI : String := "str_ascii_iterator"
structure ZA (z TI TO i1 i2 : Addr) : Prop where
  TIz : TI ≠ z
  TOz : TO ≠ z
  i1z : i1 ≠ z
  i2z : i2 ≠ z
  TITO : TI ≠ TO
  TIi1 : TI ≠ i1
  TIi2 : TI ≠ i2
  TOi1 : TO ≠ i1
  TOi2 : TO ≠ i2
  i12 : i1 ≠ i2
theorem si_at {h h' : Heap} {a : Addr} {ty : String} {x : Str} {t : Tok} {i : Nat} (y : h.IsStrIter a ty x t i) (e : ∀ o, h.get? a = some o → h'.get? a = some o) : h'.IsStrIter a ty x t i :=
  let ⟨o, ho, r⟩ := y; ⟨o, e o ho, r⟩
theorem si_lt {h : Heap} {a : Addr} {ty : String} {x : Str} {t : Tok} {i : Nat} (y : h.IsStrIter a ty x t i) : a < h.objs.size := let ⟨_, ho, _⟩ := y; Heap.lt_size ho
/-- the first pair -/
theorem zs_first {hp : Heap} {tk : Tok} {z TI TO i1 i2 : Addr} {k : Nat} {x y : Str} {t u : Tok} {c e : Nat} {a b : Value} {Q : Value → Shared → Prop} (D : ZA z TI TO i1 i2)
    (hz : IsZip hp z TI TO .none) (hTI : IsPair hp TI (.ref i1) (.ref i2)) (hTO : IsPair hp TO a b) (h1 : hp.IsStrIter i1 ASI x t k) (h2 : hp.IsStrIter i2 ASI y u k) (hx : x.cps[k]? = some c) (hy : y.cps[k]? = some e)
    (hQ : ∀ h', IsZip h' z TI TO (rawInt hp.objs.size) → h'.IsStrIter i1 ASI x t (k + 1) → h'.IsStrIter i2 ASI y u (k + 1) → IsPair h' hp.objs.size (.str ⟨#[c]⟩ tk) (.str ⟨#[e]⟩ (tk + 1)) →
      (∀ c o, c ≠ z → c ≠ TO → c ≠ i1 → c ≠ i2 → hp.get? c = some o → h'.get? c = some o) → Q (.ref hp.objs.size) ⟨h', g, dr, tk + 1 + 1, os⟩) :
    wpAny (model prog w) A (Builtin.«zip.__next__» ⟨[.ref z], []⟩) (fun fin s' => ∃ v, fin = .done (.ret v) ∧ Q v s') E ⟨hp, g, dr, tk, os⟩ := by
  show wpAny _ _ (field (.ref z) 2 >>= _) _ _ _
  refine wpAny_bind (wpAny_field hz rfl (x := .bool false) rfl ?_)
  show wpAny _ _ (field (.ref z) 3 >>= _) _ _ _
  refine wpAny_bind (wpAny_field hz rfl (x := .ref TI) rfl ?_)
  refine wpAny_bind (wpAny_seqItems hTI rfl ?_)
  show wpAny _ _ (Builtin.SmallTypes.ownedTupleIsFree (.ref z) >>= _) _ _ _
  refine wpAny_bind ?_
  unfold Builtin.SmallTypes.ownedTupleIsFree
  refine wpAny_bind (wpAny_field hz rfl (x := .none) rfl (wpAny_pure ?_))
  simp only [if_true]
  refine wpAny_bind (wpAny_rule ?_)
  refine wpAny_bind (wpAny_field hz rfl (x := .ref TO) rfl ?_)
  refine wpAny_bind (wpAny_setField_rec hz (by simp) fun h₁ hz₁ hs₁ => ?_)
  replace hz₁ : IsZip h₁ z TI TO .ellipsis := hz₁
  replace hs₁ : Heap.SameBut z hp h₁ := hs₁
  refine wpAny_bind ?_
  simp only [List.zipIdx_cons, List.zipIdx_nil, List.forIn_cons, List.forIn_nil]
  refine wpAny_bind (wpAny_bind (wpAny_onRaise ?_))
  show wpAny _ _ (Builtin.SmallTypes.nextOf (.ref i1) >>= _) _ _ _
  refine wpAny_bind (wpAny_nextOf_ascii_item (h1.extBut hs₁.extBut D.i1z) hx fun h₂ h1₂ hs₂ => wpAny_pure ?_)
  replace hs₂ : Heap.SameBut i1 h₁ h₂ := hs₂
  have hTO₂ : IsPair h₂ TO a b := hs₂.extBut _ _ D.TOi1 (hs₁.extBut _ _ D.TOz hTO)
  refine wpAny_bind (wpAny_seqItems hTO₂ rfl ?_)
  refine wpAny_bind (wpAny_updateSeq_pair hTO₂ fun h₃ hTO₃ hs₃ => ?_)
  replace hTO₃ : IsPair h₃ TO (.str ⟨#[c]⟩ tk) b := hTO₃
  replace hs₃ : Heap.SameBut TO h₂ h₃ := hs₃
  refine wpAny_bind (wpAny_letGo (wpAny_pure ?_))
  refine wpAny_bind (wpAny_bind (wpAny_onRaise ?_))
  show wpAny _ _ (Builtin.SmallTypes.nextOf (.ref i2) >>= _) _ _ _
  refine wpAny_bind (wpAny_nextOf_ascii_item (((h2.extBut hs₁.extBut D.i2z).extBut hs₂.extBut D.i12.symm).extBut hs₃.extBut D.TOi2.symm) hy fun h₄ h2₄ hs₄ => wpAny_pure ?_)
  replace hs₄ : Heap.SameBut i2 h₃ h₄ := hs₄
  have hTO₄ : IsPair h₄ TO (.str ⟨#[c]⟩ tk) b := hs₄.extBut _ _ D.TOi2 hTO₃
  refine wpAny_bind (wpAny_seqItems hTO₄ rfl ?_)
  refine wpAny_bind (wpAny_updateSeq_pair hTO₄ fun h₅ hTO₅ hs₅ => ?_)
  replace hTO₅ : IsPair h₅ TO (.str ⟨#[c]⟩ tk) (.str ⟨#[e]⟩ (tk + 1)) := hTO₅
  replace hs₅ : Heap.SameBut TO h₄ h₅ := hs₅
  refine wpAny_bind (wpAny_letGo (wpAny_pure (wpAny_pure ?_)))
  refine wpAny_bind (wpAny_seqItems hTO₅ rfl ?_)
  refine wpAny_bind (wpAny_newTuple ?_)
  have hsz : h₅.objs.size = hp.objs.size := by rw [hs₅.1, hs₄.1, hs₃.1, hs₂.1, hs₁.1]
  have hz₅ : IsZip h₅ z TI TO .ellipsis := hs₅.extBut _ _ D.TOz.symm (hs₄.extBut _ _ D.i2z.symm (hs₃.extBut _ _ D.TOz.symm (hs₂.extBut _ _ D.i1z.symm hz₁)))
  have hk₅ : ∀ c o, c ≠ z → c ≠ TO → c ≠ i1 → c ≠ i2 → hp.get? c = some o → h₅.get? c = some o := fun c o c1 c2 c3 c4 e =>
    hs₅.extBut _ _ c2 (hs₄.extBut _ _ c4 (hs₃.extBut _ _ c2 (hs₂.extBut _ _ c3 (hs₁.extBut _ _ c1 e))))
  have h1₅ : h₅.IsStrIter i1 ASI x t (k + 1) := ((h1₂.extBut hs₃.extBut D.TOi1.symm).extBut hs₄.extBut D.i12).extBut hs₅.extBut D.TOi1.symm
  have h2₅ : h₅.IsStrIter i2 ASI y u (k + 1) := h2₄.extBut hs₅.extBut D.TOi2.symm
  have hzlt : z < h₅.objs.size := Heap.lt_size hz₅
  show wpAny _ _ (Builtin.SmallTypes.ownedTupleHandOut (.ref z) (.ref h₅.objs.size) >>= _) _ _ _
  refine wpAny_bind ?_
  unfold Builtin.SmallTypes.ownedTupleHandOut
  have hz₆ : IsZip (h₅.push { cls := .type "tuple", data := .seq #[.str ⟨#[c]⟩ tk, .str ⟨#[e]⟩ (tk + 1)] }) z TI TO .ellipsis := Heap.get?_push_of_some _ hz₅
  refine wpAny_bind (wpAny_setField_rec hz₆ (by simp) fun h₇ hz₇ hs₇ => ?_)
  replace hz₇ : IsZip h₇ z TI TO (rawInt h₅.objs.size) := hz₇
  refine wpAny_setField_rec hz₇ (by simp) fun h₈ hz₈ hs₈ => ?_
  replace hz₈ : IsZip h₈ z TI TO (rawInt h₅.objs.size) := hz₈
  have up : ∀ c o, c ≠ z → h₅.get? c = some o → h₈.get? c = some o := fun c o c1 e => hs₈.extBut _ _ c1 (hs₇.extBut _ _ c1 (Heap.get?_push_of_some _ e))
  have hT₈ : IsPair h₈ h₅.objs.size (.str ⟨#[c]⟩ tk) (.str ⟨#[e]⟩ (tk + 1)) := hs₈.extBut _ _ (Nat.ne_of_gt hzlt) (hs₇.extBut _ _ (Nat.ne_of_gt hzlt) (Heap.get?_push_size _ rfl))
  rw [hsz] at hz₈ hT₈
  refine wpAny_pure ⟨_, rfl, ?_⟩
  show Q (.ref h₅.objs.size) _
  rw [hsz]
  exact hQ h₈ hz₈ (si_at h1₅ fun o e => up _ o D.i1z e) (si_at h2₅ fun o e => up _ o D.i2z e) hT₈ fun c o c1 c2 c3 c4 e => up c o c1 (hk₅ c o c1 c2 c3 c4 e)
/-- a later pair: the tuple before is still out -/
theorem zs_next {hp : Heap} {tk : Tok} {z TI TO T i1 i2 : Addr} {f : Bool} {oT : Obj} {k : Nat} {x y : Str} {t u : Tok} {c e : Nat} {Q : Value → Shared → Prop} (D : ZA z TI TO i1 i2)
    (hz : IsZipHeld hp z TI TO T f) (hT : hp.get? T = some oT) (hTI : IsPair hp TI (.ref i1) (.ref i2)) (h1 : hp.IsStrIter i1 ASI x t k) (h2 : hp.IsStrIter i2 ASI y u k) (hx : x.cps[k]? = some c) (hy : y.cps[k]? = some e)
    (hQ : ∀ h', IsZipHeld h' z TI TO T true → h'.IsStrIter i1 ASI x t (k + 1) → h'.IsStrIter i2 ASI y u (k + 1) → IsPair h' hp.objs.size (.str ⟨#[c]⟩ tk) (.str ⟨#[e]⟩ (tk + 1)) →
      (∀ c o, c ≠ z → c ≠ i1 → c ≠ i2 → hp.get? c = some o → h'.get? c = some o) → Q (.ref hp.objs.size) ⟨h', g, dr, tk + 1 + 1, os⟩) :
    wpAny (model prog w) A (Builtin.«zip.__next__» ⟨[.ref z], []⟩) (fun fin s' => ∃ v, fin = .done (.ret v) ∧ Q v s') E ⟨hp, g, dr, tk, os⟩ := by
  show wpAny _ _ (field (.ref z) 2 >>= _) _ _ _
  refine wpAny_bind (wpAny_field hz rfl (x := .bool false) rfl ?_)
  show wpAny _ _ (field (.ref z) 3 >>= _) _ _ _
  refine wpAny_bind (wpAny_field hz rfl (x := .ref TI) rfl ?_)
  refine wpAny_bind (wpAny_seqItems hTI rfl ?_)
  show wpAny _ _ (Builtin.SmallTypes.ownedTupleIsFree (.ref z) >>= _) _ _ _
  refine wpAny_bind (wpAny_tupleHeld_zip hz hT fun h₁ hz₁ hs₁ => ?_)
  replace hs₁ : Heap.SameBut z hp h₁ := hs₁
  simp only [Bool.false_eq_true, if_false]
  refine wpAny_bind ?_
  rw [← Array.forIn_toList]
  simp only [List.forIn_cons, List.forIn_nil]
  refine wpAny_bind (wpAny_bind (wpAny_holding ?_))
  show wpAny _ _ (Builtin.SmallTypes.nextOf (.ref i1) >>= _) _ _ _
  refine wpAny_bind (wpAny_nextOf_ascii_item (h1.extBut hs₁.extBut D.i1z) hx fun h₂ h1₂ hs₂ => wpAny_pure ?_)
  replace hs₂ : Heap.SameBut i1 h₁ h₂ := hs₂
  refine wpAny_pure ?_
  refine wpAny_bind (wpAny_bind (wpAny_holding ?_))
  show wpAny _ _ (Builtin.SmallTypes.nextOf (.ref i2) >>= _) _ _ _
  refine wpAny_bind (wpAny_nextOf_ascii_item ((h2.extBut hs₁.extBut D.i2z).extBut hs₂.extBut D.i12.symm) hy fun h₃ h2₃ hs₃ => wpAny_pure ?_)
  replace hs₃ : Heap.SameBut i2 h₂ h₃ := hs₃
  refine wpAny_pure (wpAny_pure ?_)
  show wpAny _ _ (newTuple [.str ⟨#[c]⟩ tk, .str ⟨#[e]⟩ (tk + 1)] >>= _) _ _ _
  refine wpAny_bind (wpAny_newTuple ?_)
  have hsz : h₃.objs.size = hp.objs.size := by rw [hs₃.1, hs₂.1, hs₁.1]
  have hz₃ : IsZipHeld h₃ z TI TO T true := hs₃.extBut _ _ D.i2z.symm (hs₂.extBut _ _ D.i1z.symm hz₁)
  have hk : ∀ c o, c ≠ z → c ≠ i1 → c ≠ i2 → hp.get? c = some o → h₃.get? c = some o := fun c o c1 c2 c3 e => hs₃.extBut _ _ c3 (hs₂.extBut _ _ c2 (hs₁.extBut _ _ c1 e))
  have h1₃ : h₃.IsStrIter i1 ASI x t (k + 1) := h1₂.extBut hs₃.extBut D.i12
  refine wpAny_pure ⟨_, rfl, ?_⟩
  show Q (.ref h₃.objs.size) _
  have hpp : IsPair (h₃.push { cls := .type "tuple", data := .seq #[.str ⟨#[c]⟩ tk, .str ⟨#[e]⟩ (tk + 1)] }) h₃.objs.size (.str ⟨#[c]⟩ tk) (.str ⟨#[e]⟩ (tk + 1)) := Heap.get?_push_size _ rfl
  rw [hsz] at hpp ⊢
  exact hQ _ (Heap.get?_push_of_some _ hz₃) (si_at h1₃ fun o e => Heap.get?_push_of_some _ e) (si_at h2₃ fun o e => Heap.get?_push_of_some _ e) hpp fun c o c1 c2 c3 e => Heap.get?_push_of_some _ (hk c o c1 c2 c3 e)
/-- the end -/
theorem zs_end {hp : Heap} {tk : Tok} {z TI TO T i1 i2 : Addr} {f : Bool} {oT : Obj} {k : Nat} {x : Str} {t : Tok} {Q : Fin → Shared → Prop} (hh : A.handled = none) (D : ZA z TI TO i1 i2)
    (hz : IsZipHeld hp z TI TO T f) (hT : hp.get? T = some oT) (hTI : IsPair hp TI (.ref i1) (.ref i2)) (h1 : hp.IsStrIter i1 ASI x t k) (hx : x.cps[k]? = none)
    (hE : ∀ h' e, (∀ c o, c ≠ z → c ≠ i1 → c ≠ i2 → hp.get? c = some o → h'.get? c = some o) → (∃ o, h'.get? e = some o ∧ o.cls = .type "StopIteration") → E (.ref e) ⟨h', g, dr, tk, os⟩) :
    wpAny (model prog w) A (Builtin.«zip.__next__» ⟨[.ref z], []⟩) Q E ⟨hp, g, dr, tk, os⟩ := by
  show wpAny _ _ (field (.ref z) 2 >>= _) _ _ _
  refine wpAny_bind (wpAny_field hz rfl (x := .bool false) rfl ?_)
  show wpAny _ _ (field (.ref z) 3 >>= _) _ _ _
  refine wpAny_bind (wpAny_field hz rfl (x := .ref TI) rfl ?_)
  refine wpAny_bind (wpAny_seqItems hTI rfl ?_)
  show wpAny _ _ (Builtin.SmallTypes.ownedTupleIsFree (.ref z) >>= _) _ _ _
  refine wpAny_bind (wpAny_tupleHeld_zip hz hT fun h₁ hz₁ hs₁ => ?_)
  replace hs₁ : Heap.SameBut z hp h₁ := hs₁
  simp only [Bool.false_eq_true, if_false]
  refine wpAny_bind ?_
  rw [← Array.forIn_toList]
  simp only [List.forIn_cons, List.forIn_nil]
  refine wpAny_bind (wpAny_bind (wpAny_holding ?_))
  show wpAny _ _ (Builtin.SmallTypes.nextOf (.ref i1) >>= _) _ _ _
  refine wpAny_bind (wpAny_nextOf_ascii_end hh (h1.extBut hs₁.extBut D.i1z) hx fun h₂ e hs₂ he => ?_)
  exact hE h₂ e (fun c o c1 c2 _ x => hs₂ _ _ c2 (hs₁.extBut _ _ c1 x)) he
theorem zsp_first {hp : Heap} {tk : Tok} {z TI TO i1 i2 : Addr} {k : Nat} {x y : Str} {t u : Tok} {c e : Nat} {a b : Value} {Q : Option Value → Shared → Prop} (D : ZA z TI TO i1 i2)
    (hz : IsZip hp z TI TO .none) (hTI : IsPair hp TI (.ref i1) (.ref i2)) (hTO : IsPair hp TO a b) (h1 : hp.IsStrIter i1 ASI x t k) (h2 : hp.IsStrIter i2 ASI y u k) (hx : x.cps[k]? = some c) (hy : y.cps[k]? = some e)
    (hQ : ∀ h', IsZip h' z TI TO (rawInt hp.objs.size) → h'.IsStrIter i1 ASI x t (k + 1) → h'.IsStrIter i2 ASI y u (k + 1) → IsPair h' hp.objs.size (.str ⟨#[c]⟩ tk) (.str ⟨#[e]⟩ (tk + 1)) →
      (∀ c o, c ≠ z → c ≠ TO → c ≠ i1 → c ≠ i2 → hp.get? c = some o → h'.get? c = some o) → Q (some (.ref hp.objs.size)) ⟨h', g, dr, tk + 1 + 1, os⟩) :
    wpAny (model prog w) A (pyNext (.ref z)) Q E ⟨hp, g, dr, tk, os⟩ := by
  have hTy : Shared.TypeIs ⟨hp, g, dr, tk, os⟩ (.ref z) "zip" := ⟨_, hz, rfl⟩
  unfold pyNext
  exact wpAny_bind (wpAny_attempt (wpAny_callSpecial?_slot (name := Str.ofString "__next__") hTy PySem.F.slot_zip_next
    (wpAny_call_entry PySem.F.slot_zip_next hTy PySem.F.entry_zip_next
      (zs_first D hz hTI hTO h1 h2 hx hy fun h' a1 a2 a3 a4 a5 => wpAny_pure (hQ h' a1 a2 a3 a4 a5)) (PySem.F.args_zip_next_1 _))))
theorem zsp_next {hp : Heap} {tk : Tok} {z TI TO T i1 i2 : Addr} {f : Bool} {oT : Obj} {k : Nat} {x y : Str} {t u : Tok} {c e : Nat} {Q : Option Value → Shared → Prop} (D : ZA z TI TO i1 i2)
    (hz : IsZipHeld hp z TI TO T f) (hT : hp.get? T = some oT) (hTI : IsPair hp TI (.ref i1) (.ref i2)) (h1 : hp.IsStrIter i1 ASI x t k) (h2 : hp.IsStrIter i2 ASI y u k) (hx : x.cps[k]? = some c) (hy : y.cps[k]? = some e)
    (hQ : ∀ h', IsZipHeld h' z TI TO T true → h'.IsStrIter i1 ASI x t (k + 1) → h'.IsStrIter i2 ASI y u (k + 1) → IsPair h' hp.objs.size (.str ⟨#[c]⟩ tk) (.str ⟨#[e]⟩ (tk + 1)) →
      (∀ c o, c ≠ z → c ≠ i1 → c ≠ i2 → hp.get? c = some o → h'.get? c = some o) → Q (some (.ref hp.objs.size)) ⟨h', g, dr, tk + 1 + 1, os⟩) :
    wpAny (model prog w) A (pyNext (.ref z)) Q E ⟨hp, g, dr, tk, os⟩ := by
  have hTy : Shared.TypeIs ⟨hp, g, dr, tk, os⟩ (.ref z) "zip" := ⟨_, hz, rfl⟩
  unfold pyNext
  exact wpAny_bind (wpAny_attempt (wpAny_callSpecial?_slot (name := Str.ofString "__next__") hTy PySem.F.slot_zip_next
    (wpAny_call_entry PySem.F.slot_zip_next hTy PySem.F.entry_zip_next
      (zs_next D hz hT hTI h1 h2 hx hy fun h' a1 a2 a3 a4 a5 => wpAny_pure (hQ h' a1 a2 a3 a4 a5)) (PySem.F.args_zip_next_1 _))))
theorem zsp_end {hp : Heap} {tk : Tok} {z TI TO T i1 i2 : Addr} {f : Bool} {oT : Obj} {k : Nat} {x : Str} {t : Tok} {Q : Option Value → Shared → Prop} (hh : A.handled = none) (D : ZA z TI TO i1 i2)
    (hz : IsZipHeld hp z TI TO T f) (hT : hp.get? T = some oT) (hTI : IsPair hp TI (.ref i1) (.ref i2)) (h1 : hp.IsStrIter i1 ASI x t k) (hx : x.cps[k]? = none)
    (hQ : ∀ h', (∀ c o, c ≠ z → c ≠ i1 → c ≠ i2 → hp.get? c = some o → h'.get? c = some o) → Q none ⟨h', g, dr, tk, os⟩) : wpAny (model prog w) A (pyNext (.ref z)) Q E ⟨hp, g, dr, tk, os⟩ := by
  have hTy : Shared.TypeIs ⟨hp, g, dr, tk, os⟩ (.ref z) "zip" := ⟨_, hz, rfl⟩
  unfold pyNext
  refine wpAny_bind (wpAny_attempt (wpAny_callSpecial?_slot (name := Str.ofString "__next__") hTy PySem.F.slot_zip_next
    (wpAny_call_entry PySem.F.slot_zip_next hTy PySem.F.entry_zip_next (zs_end hh D hz hT hTI h1 hx fun h' e hk he => ?_) (PySem.F.args_zip_next_1 _))))
  obtain ⟨o, ho, hc⟩ := he
  refine wpAny_bind (wpAny_isInstance (T := "StopIteration") (b := true) ⟨o, ho, hc⟩ isSubtype_stop ?_)
  exact wpAny_pure (hQ _ hk)
end
abbrev zsI (x : Str) (t : Tok) : Obj := { cls := .type "str_ascii_iterator", data := .fields #[.str x t, .int 0 0] }
abbrev zsH2 (h : Heap) (x y : Str) (t u : Tok) : Heap := (h.push (zsI x t)).push (zsI y u)
abbrev zsH3 (h : Heap) (x y : Str) (t u : Tok) : Heap := (zsH2 h x y t u).push { cls := .type "tuple", data := .seq #[.ref h.objs.size, .ref (h.push (zsI x t)).objs.size] }
abbrev zsH4 (h : Heap) (x y : Str) (t u : Tok) : Heap := (zsH3 h x y t u).push { cls := .type "tuple", data := .seq #[.none, .none] }
abbrev zsH5 (h : Heap) (x y : Str) (t u : Tok) : Heap := (zsH4 h x y t u).push { cls := .type "zip", data := .fields #[.none, .bool false, .bool false, .ref (zsH2 h x y t u).objs.size, .ref (zsH3 h x y t u).objs.size] }
section
variable {prog : Program} {w : World} {A : Around} {E : Value → Shared → Prop} {s : Shared}
end
end JP

set_option Elab.async false
set_option linter.all false
set_option maxRecDepth 100000
set_option maxHeartbeats 4000000
namespace JP
open PySem L2
section
variable {prog : Program} {w : World} {A : Around} {E : Value → Shared → Prop} {s : Shared}
theorem PairArg.zs (z TI TO i1 i2 : Addr) (D : ZA z TI TO i1 i2) (x y : Str) (t u : Tok) (n : Nat) (hn : 0 < n) (hx : x.cps.size = n) (hy : y.cps.size = n) :
    PairArg prog w "zip" z [z, TI, TO, i1, i2] [z, TO, i1, i2] n (fun i k v => ∃ c e t' u', x.cps[i]? = some c ∧ y.cps[i]? = some e ∧ k = .str ⟨#[c]⟩ t' ∧ v = .str ⟨#[e]⟩ u')
      (fun h => IsZip h z TI TO .none ∧ IsPair h TI (.ref i1) (.ref i2) ∧ (∃ a b, IsPair h TO a b) ∧ h.IsStrIter i1 ASI x t 0 ∧ h.IsStrIter i2 ASI y u 0) where
  type := fun s ok => ⟨_, ok.1, rfl⟩
  notDict := by decide
  keep := fun h h' ok hk => by
    obtain ⟨hz, hTI, ⟨a, b, hTO⟩, h1, h2⟩ := ok
    exact ⟨hk _ _ hz, hk _ _ hTI, ⟨a, b, hk _ _ hTO⟩, si_at h1 fun o e => hk _ o e, si_at h2 fun o e => hk _ o e⟩
  there := fun h ok b hb => by
    obtain ⟨hz, hTI, ⟨a, c, hTO⟩, ⟨o1, h1, _⟩, ⟨o2, h2, _⟩⟩ := ok
    simp only [List.mem_cons, List.not_mem_nil, or_false] at hb
    rcases hb with rfl | rfl | rfl | rfl | rfl
    all_goals first | exact ⟨_, hz⟩ | exact ⟨_, hTI⟩ | exact ⟨_, hTO⟩ | exact ⟨_, h1⟩ | exact ⟨_, h2⟩
  sub := fun b hb => by simp at hb ⊢; rcases hb with rfl | rfl | rfl | rfl <;> simp
  noKeys := fun A s Q E hA ok h => getAttrOr_miss_zip ok.1 rfl rfl rfl zip_no_keys (by decide +kernel) hA h
  iter := fun A s d Q E hA ok hd hdf h => by
    obtain ⟨hz, hTI, ⟨a, b, hTO⟩, h1, h2⟩ := ok
    simp only [List.mem_cons, List.not_mem_nil, or_false, not_or] at hdf
    obtain ⟨dz, dTI, dTO, di1, di2⟩ := hdf
    refine wpAny_pyIter_zip hz (h z [z, TO, i1, i2] (fun i h => IsPair h TI (.ref i1) (.ref i2) ∧ h.IsStrIter i1 ASI x t i ∧ h.IsStrIter i2 ASI y u i ∧
      ((i = 0 ∧ IsZip h z TI TO .none ∧ ∃ a b, IsPair h TO a b) ∨ ∃ T f oT, IsZipHeld h z TI TO T f ∧ h.get? T = some oT ∧ T ≠ z ∧ T ≠ i1 ∧ T ≠ i2 ∧ T ≠ d)) s.heap s.toks ?_
      ⟨hTI, h1, h2, .inl ⟨rfl, hz, a, b, hTO⟩⟩ (fun _ _ e => e) fun b hb => .inl hb)
    exact {
      off := fun hm => by
        simp only [List.mem_cons, List.not_mem_nil, or_false] at hm
        rcases hm with e | e | e | e
        · exact dz e
        · exact dTO e
        · exact di1 e
        · exact di2 e
      frame := fun i h₁ h₂ st hk => by
        obtain ⟨hTI, h1, h2, hz⟩ := st
        refine ⟨hk _ _ (Ne.symm dTI) hTI, si_at h1 fun o e => hk _ o (Ne.symm di1) e, si_at h2 fun o e => hk _ o (Ne.symm di2) e, ?_⟩
        rcases hz with ⟨h0, hz, a, b, hTO⟩ | ⟨T, f, oT, hz, hT, r1, r2, r3, r4⟩
        · exact .inl ⟨h0, hk _ _ (Ne.symm dz) hz, a, b, hk _ _ (Ne.symm dTO) hTO⟩
        · exact .inr ⟨T, f, oT, hk _ _ (Ne.symm dz) hz, hk _ _ r4 hT, r1, r2, r3, r4⟩
      item := fun i s₁ Q₁ E₁ hi st hds hQ => by
        obtain ⟨hp, g, dr, tk, os⟩ := s₁
        obtain ⟨hTI, h1, h2, hz⟩ := st
        have ex := Array.getElem?_eq_getElem (show i < x.cps.size by omega)
        have ey := Array.getElem?_eq_getElem (show i < y.cps.size by omega)
        have n1 : hp.objs.size ≠ i1 := Nat.ne_of_gt (si_lt h1)
        have n2 : hp.objs.size ≠ i2 := Nat.ne_of_gt (si_lt h2)
        rcases hz with ⟨_, hz, a, b, hTO⟩ | ⟨T, f, oT, hz, hT, r1, r2, r3, r4⟩
        · have nz : hp.objs.size ≠ z := Nat.ne_of_gt (Heap.lt_size hz)
          refine zsp_first D hz hTI hTO h1 h2 ex ey fun h' a1 a3 a4 a5 hk => ?_
          exact hQ hp.objs.size _ _ h' _ ⟨_, _, _, _, ex, ey, rfl, rfl⟩ (.inl ⟨_, a5, rfl, _, rfl⟩)
            ⟨hk _ _ D.TIz D.TITO D.TIi1 D.TIi2 hTI, a3, a4, .inr ⟨hp.objs.size, false, _, a1, a5, nz, n1, n2, Nat.ne_of_gt hds⟩⟩
            fun c o hc e => hk c o (fun x => hc (by simp [x])) (fun x => hc (by simp [x])) (fun x => hc (by simp [x])) (fun x => hc (by simp [x])) e
        · refine zsp_next D hz hT hTI h1 h2 ex ey fun h' a1 a3 a4 a5 hk => ?_
          exact hQ hp.objs.size _ _ h' _ ⟨_, _, _, _, ex, ey, rfl, rfl⟩ (.inl ⟨_, a5, rfl, _, rfl⟩)
            ⟨hk _ _ D.TIz D.TIi1 D.TIi2 hTI, a3, a4, .inr ⟨T, true, oT, a1, hk _ _ r1 r2 r3 hT, r1, r2, r3, r4⟩⟩
            fun c o hc e => hk c o (fun x => hc (by simp [x])) (fun x => hc (by simp [x])) (fun x => hc (by simp [x])) e
      done := fun s₁ Q₁ E₁ st hQ => by
        obtain ⟨hp, g, dr, tk, os⟩ := s₁
        obtain ⟨hTI, h1, h2, hz⟩ := st
        have hend : x.cps[n]? = none := Array.getElem?_eq_none (by omega)
        rcases hz with ⟨h0, _⟩ | ⟨T, f, oT, hz, hT, r1, r2, r3, r4⟩
        · omega
        · exact zsp_end hA D hz hT hTI h1 hend fun h' hk => hQ h' tk fun c o hc e => hk c o (fun x => hc (by simp [x])) (fun x => hc (by simp [x])) (fun x => hc (by simp [x])) e }
/-- what dict(zip(x, y)) holds -/
def ZTab (knd : KeyKind prog w Key) (d : Addr) (x y : Str) (i : Nat) (h : Heap) : Prop := ∃ kvs : List (Key × Value), h.DictOf knd d kvs ∧ kvs.length = i ∧ ∀ j c e, j < i → x.cps[j]? = some c → y.cps[j]? = some e → ∃ u, kvs[j]? = some (.inr ⟨#[c]⟩, .str ⟨#[e]⟩ u)
end
def zG (a b : List Nat) : Prop := a.Nodup ∧ (∀ c ∈ a, c < 128) ∧ (∀ c ∈ b, c < 128) ∧ a.length = b.length ∧ 0 < a.length ∧ a.length ≤ 1000
def zK (a b : List Nat) : List (Key × V) := (a.zip b).map fun q => (.inr (tx [q.1]), .str (tx [q.2]))
def tZd (ta : TA) : TE := fun σ H Q => ta σ H fun vs H1 => ∃ a b : List Nat, vs = [.str (tx a), .str (tx b)] ∧ zG a b ∧ ∀ d, H1 d = none → Q (.ref d) (upd H1 d (.dK (zK a b)))
section
variable {X : Cx} {Y : Cy} {e1 e2 : Expr} {f g : EX} {p p2 pos pos2 : Pos}
end
end JP

set_option Elab.async false
set_option linter.all false
set_option maxRecDepth 100000
set_option maxHeartbeats 4000000
namespace JP
open PySem L2
section
variable {X : Cx} {Y : Cy} {o e : Expr} {f g : EX} {pos apos : Pos}
end
end JP

set_option Elab.async false
set_option linter.all false
set_option maxRecDepth 100000
set_option maxHeartbeats 4000000
namespace JP
open PySem L2
section
variable {X : Cx} {Y : Cy} {o : Expr} {go : EY} {pos apos : Pos} {m : Str} {k kd : Nat} {C : Addr} {pl : Sem Bool}
end
end JP

set_option Elab.async false
set_option linter.all false
set_option maxRecDepth 100000
set_option maxHeartbeats 4000000
namespace JP
open PySem L2
section
variable {M : Model} {A : Around} {E : Value → Shared → Prop} {s : Shared} {env ce : Env} {outer : List Env} {Z : Obj → Prop} {B : Heap} {a L C : Addr}
theorem frame_eq (h : ce.frame = env.frame) (v : Value) : noteFrame v ce = noteFrame v env := by
  unfold noteFrame frameOf
  rw [h]
/-- noted by another hand ahead -/
theorem looks_otherZ {fl : Value} {Q : Unit → Shared → Prop} (hZ : HandSPX.Steady Z) (hfr : A.frames = some (env :: outer)) (hf : env.frame = some L) (h1 : B.StaysIn s.heap) (h2 : B.get? a = none) (h3 : s.heap.FunFrames B (env :: outer)) (h4 : HandSPX.TracedZ s.heap B a Z fl) (hfl : (fl == rawInt L) = false)
    (hQ : ∀ h', HandSPX.HeldZ B (env :: outer) a Z L h' → s.heap.UpToSlots h' → Q () { s with heap := h' }) : wpAny M A (noteFrame (.ref a) env) Q E s := by
  obtain ⟨x, vs, T, y, ts, ex, zx, dx, ix, nT, ne, eT, dT, iT⟩ := h4
  have oth : ∀ b, b ≠ T → (s.heap.update T (Obj.mapFields fun z => z.setIfInBounds 3 Value.none)).get? b = s.heap.get? b := fun b hb => Heap.get?_update_other _ _ (Ne.symm hb)
  have nrec : ∀ b o, s.heap.get? b = some o → (∀ us, o.data ≠ .fields us) → b ≠ T := fun b o e n q => by
    subst q
    rw [eT] at e
    cases e
    exact n ts dT
  unfold noteFrame
  simp only [hf]
  refine wpAny_bind (wpAny_field ex dx ix ?_)
  rw [if_pos (by simp : (Value.ref T != Value.none) = true)]
  refine wpAny_bind (wpAny_field eT dT iT ?_)
  rw [hfl, if_neg Bool.false_ne_true]
  refine wpAny_bind (wpAny_setField eT dT (Array.getElem?_eq_some_iff.mp iT).1 ?_)
  refine HandSPX.wpAny_entryZ hZ hfr (h3.of_keeps fun b o e n => ⟨o, (oth b (nrec b o e n)).trans e, rfl⟩) hf ((oth a (Ne.symm ne)).trans ex) (fun b o e => (oth b fun q => by rw [q, nT] at e; cases e).trans (h1 b o e)) h2 dx (Array.getElem?_eq_some_iff.mp ix).1 zx fun h' N => ?_
  obtain ⟨n1, n2, n3, n4⟩ := N
  exact hQ h' ⟨n1, h2, n2, n3⟩ fun b o e n => n4 b o ((oth b (nrec b o e n)).trans e) n
/-- the frame is noted -/
theorem sky_note {Q : Unit → Shared → Prop} (hZ : HandSPX.Steady Z) (hfr : A.frames = some (env :: outer)) (hf : env.frame = some L) (hc : C ≠ L) (x : Sky B (env :: outer) a Z C s.heap)
    (hQ : ∀ h', HandSPX.HeldZ B (env :: outer) a Z L h' → s.heap.UpToSlots h' → Q () { s with heap := h' }) : wpAny M A (noteFrame (.ref a) env) Q E s := by
  rcases x with ⟨k1, k2, k3, oe, vs, k4, k5, k6, k7⟩ | fl | ⟨k1, k2, k3, k4⟩
  · exact HandSPX.look_newZ hZ hfr k3 hf k4 k1 k2 k6 k7 k5 hQ
  · exact HandSPX.looks_onZ hZ hfr hf fl hQ
  · exact looks_otherZ hZ hfr hf k1 k2 k3 k4 (by simp [rawInt, hc]) hQ
/-- the object at C apart from the ground -/
theorem held_part {h h' : Heap} {l : List Env} {m : Str → Option Value} (hh : HandSPX.HeldZ B l a Z L h) (hC : B.Ns C m) (sb : Heap.SameBut C h h') : HandSPX.HeldZ (PySem.W.hideAll B [C]) l a Z L h' := by
  obtain ⟨k1, k2, k3, x, vs, T, y, ts, ex, zx, dx, ix, nT, ne, eT, dT, iT⟩ := hh
  obtain ⟨oC, _, _, eC, dC, _⟩ := hC
  have aC : a ≠ C := fun z => by rw [z, eC] at k2; cases k2
  have tC : T ≠ C := fun z => by rw [z, eC] at nT; cases nT
  have hid : ∀ b, B.get? b = none → (PySem.W.hideAll B [C]).get? b = none := fun b e => by
    cases q : (PySem.W.hideAll B [C]).get? b with
    | none => rfl
    | some o => rw [PySem.W.of_hideAll [C] q] at e; cases e
  have ff : ∀ l : List Env, h.FunFrames B l → h'.FunFrames (PySem.W.hideAll B [C]) l := by
    intro l
    induction l with
    | nil => exact fun _ => trivial
    | cons e r ih =>
      rintro ⟨w1, ⟨L', o, w2, w3, w4, w5⟩, w6⟩
      have ne : L' ≠ C := fun z => by rw [z, eC] at w3; cases w3
      exact ⟨w1, ⟨L', o, w2, hid L' w3, (sb.2 L' ne).trans w4, w5⟩, ih w6⟩
  refine ⟨fun b o e => ?_, hid a k2, ff l k3, x, vs, T, y, ts, (sb.2 a aC).trans ex, zx, dx, ix, hid T nT, ne, (sb.2 T tC).trans eT, dT, iT⟩
  have nb : b ≠ C := fun z => by rw [z, PySem.W.hideAll_none [C] (by simp)] at e; cases e
  exact (sb.2 b nb).trans (k1 b o (PySem.W.of_hideAll [C] e))
theorem pass_on {what : String} {Q : Value → Shared → Prop} {l : List Env} (hf : ce.frame = some L) (hh : HandSPX.HeldZ B l a Z L s.heap) (hE : ∀ h', HandSPX.HeldZ B l a Z L h' → s.heap.UpToSlots h' → E (.ref a) { s with heap := h' }) :
    wpAny M A (passOn what (.ref a) ce : Sem Value) Q E s := by
  obtain ⟨k1, k2, k3, x, vs, T, y, ts, ex, zx, dx, ix, nT, ne, eT, dT, iT⟩ := id hh
  unfold passOn
  refine wpAny_bind (wpAny_field ex dx ix ?_)
  rw [if_neg (by simp : ¬ ((Value.ref T == Value.none) = true))]
  refine wpAny_bind ?_
  rw [hf]
  exact HandSPX.setFlight_onZ hh fun h' q1 q2 => wpAny_throw (hE h' q1 q2)
end
/-- behind the block -/
def postC (M : Model) (A : Around) (E : Value → Shared → Prop) (Q : Value → Shared → Prop) (acc : Value) (ce : Env) (r : Result) (s' : Shared) : Prop :=
  match r with
  | .ok _ => ∃ m, s'.heap.Ns ce.locals m ∧ ∀ h', Heap.SameBut ce.locals s'.heap h' → Q acc { s' with heap := h' }
  | .error x => ∃ m, s'.heap.Ns ce.locals m ∧ ∀ h', Heap.SameBut ce.locals s'.heap h' → wpAny M A (passOn "comprehension.variables-let-go" x ce : Sem Value) (fun _ _ => False) E { s' with heap := h' }
theorem comp_out {M : Model} {A : Around} {E : Value → Shared → Prop} {s : Shared} {env : Env} {e : Expr} {scope : Scope} {pos : Pos} {na first : Sem Value} {g : Comprehension} {gs : List Comprehension} {cl : List (Str × Addr)} {Q : Value → Shared → Prop}
    (h1 : clausesOf e = g :: gs) (h2 : ∀ x, foldedSetIterable g.iter env x = pure x) (h3 : closureFor scope env = pure cl) (h4 : scope.kind = .function) (h5 : ∀ x ∈ scope.names, x.2 = .local → scope.names.lookup x.1 = some .local)
    (h : wpAny M A first (fun x t1 => wpAny M A (pyIter x) (fun it t2 => wpAny M A na (fun acc t3 => wpAny M A (newFunctionEnv scope env.globals cl [] env.qual none .none (some env)) (fun ce t4 =>
        codeAny M A (.compStart e 0 it acc { ce with scope := relabel scope env }) (postC M A E Q acc { ce with scope := relabel scope env }) t4) E t3) E t2) E t1) E s) :
    wpAny M A (comprehension e scope env pos na false first none) Q E s := by
  unfold comprehension
  rw [h3, h1]
  refine wpAny_bind (wpAny_mono h (fun x t1 k1 => ?_) fun _ _ z => z)
  refine wpAny_bind (wpAny_standAt (wpAny_bind (wpAny_of_eq (h2 x) (wpAny_bind (wpAny_holding (wpAny_mono k1 (fun it t2 k2 => ?_) fun _ _ z => z))))))
  refine wpAny_standIf (wpAny_bind (wpAny_mono k2 (fun acc t3 k3 => wpAny_bind (wpAny_pure (wpAny_bind (wpAny_mono k3 (fun ce t4 k4 => ?_) fun _ _ z => z)))) fun _ _ z => z))
  dsimp only
  have hv : ∀ x ∈ (scope.names.filter fun x => (x.2 == .local || x.2 == .cell) && x.1 != (".0" : Str)).reverse, x.2 = .local → Env.kindOf { ce with scope := relabel scope env } x.1 = some .local := fun x hx hl =>
    lookup_relabel_local (h5 x (List.mem_filter.mp (List.mem_reverse.mp hx)).1 hl)
  refine wpAny_holding (wpAny_bind (wpAny_attempt (wpAny_holding (wpAny_run (codeAny_mono k4 fun r t5 k5 => ?_)))))
  cases r with
  | ok f =>
    obtain ⟨m, hn, k6⟩ := k5
    exact wpAny_bind (wpAny_holding (wpAny_comp_letGo (cenv := { ce with scope := relabel scope env }) h4 _ t5 m hv hn fun h' m' _ sb => wpAny_pure (k6 h' sb)))
  | error x =>
    obtain ⟨m, hn, k6⟩ := k5
    exact wpAny_bind (wpAny_holding (wpAny_comp_letGo (cenv := { ce with scope := relabel scope env }) h4 _ t5 m hv hn fun h' m' _ sb => wpAny_mono (k6 h' sb) (fun _ _ f => f.elim) fun _ _ y => y))
/-- the context of a block that errors may leave -/
abbrev CxE (X : Cx) (scope : Scope) (s : Shared) (H : Hp) (C : Addr) (cl : List (Str × Addr)) (fp : List Addr) (xe : Value → Shared → Prop) : Cx := { CxC X scope s H C cl fp with xe := xe }
theorem inv_toE {X : Cx} {pins : List (Addr × Obj)} {σ : L2.St} {H : Hp} {s : Shared} (I : Inv X pins σ H s) (xe : Value → Shared → Prop) : Inv { X with xe := xe } pins σ H s :=
  ⟨⟨I.ok.mod, I.ok.kind, I.ok.glob, I.ok.blt, I.ok.above, I.ok.inj, I.ok.has, I.ok.cab, I.ok.hd, I.ok.frames, I.ok.stk, I.ok.exf, I.ok.bs, I.ok.bsz, I.ok.noex, I.ok.exfs, I.ok.funs, I.ok.frf⟩, I.os, I.bare, I.base, I.loc, I.cell, I.free, I.freeC, I.pin, I.hok, I.len⟩
section
variable {X : Cx} {pins pins2 : List (Addr × Obj)} {σ σ2 : L2.St} {H H2 : Hp} {s : Shared} {scope : Scope} {cl : List (Str × Addr)} {fp : List Addr} {xe : Value → Shared → Prop} {WO WB : WX}
/-- an error in the air of the block is one in the air of the def, behind it -/
theorem takes_block (hs : X.stack = X.env :: X.outer) (hf : X.env.frame = some X.env.locals) (tk : Takes X WO) (I : Inv X pins σ H s) (ffp : ∀ b ∈ fp, FpOk X pins H b ∧ b < s.heap.objs.size)
    (hxe : xe = notedBy (model X.prog X.w) X.A (compEnvC scope cl s.heap.objs.size X.env) fun x s' => ∃ m, s'.heap.Ns s.heap.objs.size m ∧ ∀ h', Heap.SameBut s.heap.objs.size s'.heap h' → wpAny (model X.prog X.w) X.A (passOn "comprehension.variables-let-go" x (compEnvC scope cl s.heap.objs.size X.env) : Sem Value) (fun _ _ => False) X.xe { s' with heap := h' })
    (hW : ∀ cls d σ' H', WB cls d σ' H' → WO cls d σ H') : Takes (CxE X scope s H s.heap.objs.size cl fp xe) WB := by
  rintro u s' ⟨a, B, sI, ps, σ', H', cls, d, rfl, J, nb, up, sky, na, os, ag, w⟩
  generalize hC : s.heap.objs.size = C at *
  have nC : H' C = none := J.free
  have Cfr : C ∉ frs X.stack := fun z => by
    obtain ⟨_, o, e, _⟩ := I.stack.mem z
    have := Heap.lt_size e
    rw [hC] at this
    exact Nat.lt_irrefl _ this
  have CL : C ≠ X.env.locals := fun z => by
    have e : X.env.locals < s.heap.objs.size := I.lt
    rw [hC, ← z] at e
    exact Nat.lt_irrefl _ e
  obtain ⟨m, hm, _⟩ := J.loc
  have hm : sI.heap.Ns C m := hm
  have BC : B.Ns C m := by
    obtain ⟨o, es, ep, e, r⟩ := hm
    exact ⟨o, es, ep, nb C o e Cfr, r⟩
  have hfr : X.A.frames = some (X.env :: X.outer) := by rw [I.ok.frames, hs]
  show xe (.ref a) s'
  rw [hxe]
  show wpAny _ _ (noteFrame (.ref a) (compEnvC scope cl C X.env)) _ _ s'
  rw [frame_eq (ce := compEnvC scope cl C X.env) (env := X.env) rfl]
  have sky : Sky B (X.env :: X.outer) a (Zc cls d) C s'.heap := by rw [← hs]; exact sky
  refine sky_note Zc.steady hfr hf CL sky fun h1 held up1 => ⟨m, BC.keeps held.1, fun h2 sb => ?_⟩
  have h3 := held_part held BC sb
  refine pass_on (L := X.env.locals) hf h3 fun h4 held4 up4 => tk _ _ ?_
  have J0 : Inv X pins σ H' sI := I.call' (ch := fp) J.os J.base J.hok J.bare fun b hb => ⟨(ffp b hb).1.2.2.2.1, (ffp b hb).1.2.1, (ffp b hb).1.2.2.2.2.1, (ffp b hb).1.2.2.2.2.2⟩
  obtain ⟨f0, f1, f2, f3, f4, f5⟩ : FpOk X pins H' C := I.fpOk (Nat.le_of_eq hC) nC
  have J1 := J0.turned (t' := sI.toks) (h' := PySem.W.hideAll sI.heap [C]) (fun b o hb e => PySem.W.hideAll_get [C] e (by simpa using hb)) f0 f1 f3 f4 f5
  have notC : ∀ b o, (PySem.W.hideAll sI.heap [C]).get? b = some o → b ≠ C := fun b o e z => by
    rw [z, PySem.W.hideAll_none [C] (by simp)] at e; cases e
  refine ⟨a, PySem.W.hideAll B [C], _, pins, σ, H', cls, d, rfl, J1, fun b o e hb => ?_, fun b o e n => ?_, ?_, na, os, ag, hW _ _ _ _ w⟩
  · exact PySem.W.hideAll_get [C] (nb b o (PySem.W.of_hideAll [C] e) hb) (by simpa using notC b o e)
  · obtain ⟨l1, e1⟩ := up b o (PySem.W.of_hideAll [C] e) n
    obtain ⟨l2, e2⟩ := up1 b _ e1 n
    have e3 := (sb.2 b (notC b o e)).trans e2
    obtain ⟨l4, e4⟩ := up4 b _ e3 n
    exact ⟨l4, e4⟩
  · rw [hs]; exact .inr (.inr held4)
end
end JP

set_option Elab.async false
set_option linter.all false
set_option maxRecDepth 100000
set_option maxHeartbeats 4000000
namespace JP
open PySem L2 PyProof.Rows
/-- as tLc; the elements' reading by the slots at the start -/
def tLcE (wi : TI) (g : TG) (tt : TT) (te : L2.St → TE) (vs : List Nat) : TE := fun σ H Q => tLc wi g tt (te σ) vs σ H Q
section
variable {X : Cx} {pins : List (Addr × Obj)} {σ : L2.St} {H : Hp} {s : Shared} {Q : VK} {elt tg iter : Expr} {ifs : List Expr} {scope : Scope} {own : List (Str × Nat)} {pos pos' : Pos} {wi : TI} {g : TG} {tt : TT} {te : TE} {WO WB : WX} {Qf : Value → Shared → Prop}
theorem lcE_core (hs : X.stack = X.env :: X.outer) (hf : X.env.frame = some X.env.locals) (tk : Takes X WO) (hW : ∀ cls d σ' H', WB cls d σ' H' → WO cls d σ H')
    (hc : X.calm = true) (hN : X.N.Nodup) (I : Inv X pins σ H s) (hi : PI X tg iter wi) (ok : BlkOk X.N X.env.scope scope own)
    (hg : ∀ s H C cl fp xe, PG (CxE X scope s H C cl fp xe) tg g) (ht : ∀ s H C cl fp xe, PTs (CxE X scope s H C cl fp xe) ifs tt)
    (he : ∀ s H C cl fp xe, Takes (CxE X scope s H C cl fp xe) WB → PE (CxE X scope s H C cl fp xe) elt te) (hfo : ∀ x, foldedSetIterable iter X.env x = pure x) (h : tLc wi g tt te (own.map (·.2)) σ H Q)
    (hR : ∀ D ce s' m H', Inv X pins σ H' s' → Q (.ref D) H' → s'.heap.Ns ce.locals m → FpOk X pins H' ce.locals → postC (model X.prog X.w) X.A X.xe Qf (.ref D) ce (.ok .next) s') :
    wpAny (model X.prog X.w) X.A (comprehension (.ListComp elt [⟨tg, iter, ifs, 0⟩] scope pos) scope X.env pos' (newList []) false (eval iter X.env) none) Qf X.xe s := by
  have free : ∀ y ∈ scope.names, y.2 = .free → ∃ c, X.env.cells.lookup y.1 = some c := fun y hy e => (ok.free y hy e).elim (fun k => I.ok.has _ (.inl k)) fun k => I.ok.has _ (.inr k)
  refine comp_out rfl hfo (closure_ok free) ok.kind (fun y hy e => by rw [ok.uniq y hy, e]) (thn (hi.run pins s σ H _ I h) fun xv t1 k1 => thn k1 fun iv t2 k2 => ?_)
  obtain ⟨it, fp, tn, J, Hi, rfl, Ii, T, sti, fi, q⟩ := k2
  refine wpAny_newObj_type (newEnv_comp ?_) (by show 0 ≤ sizeLine; decide)
  generalize hD : t2.heap.objs.size = D
  have nD : Hi D = none := Ii.hok.fresh (Nat.le_of_eq hD)
  obtain ⟨W, ⟨m0, w0⟩, turn⟩ := q D nD
  generalize hs3 : ({ t2 with heap := t2.heap.push { cls := .type "list", data := .seq ([] : List Value).toArray } } : Shared) = u3
  have J3 : Inv X pins σ (upd Hi D (.lst [])) u3 := by
    rw [← hs3]
    exact Ii.laid (t' := t2.toks) (fun b o e => Heap.get?_push_of_some _ e) (Nat.le_of_eq hD) ⟨Nat.zero_le _, [], 0, .nil, by rw [← hD]; exact Heap.get?_push_size _ rfl⟩
  have e3 : u3.heap = t2.heap.push { cls := .type "list", data := .seq ([] : List Value).toArray } := by rw [← hs3]
  have sizes : ∀ b ∈ fp, b < t2.heap.objs.size := fun b hb => let ⟨_, e, _⟩ := T.obj _ _ sti b hb; Heap.lt_size e
  have g3 : ∀ b ∈ fp, FpOk X pins (upd Hi D (.lst [])) b ∧ b < u3.heap.objs.size := fun b hb => by
    have l := sizes b hb
    refine ⟨⟨?_, (fi b hb).2⟩, by rw [e3, Heap.size_push]; exact Nat.lt_succ_of_lt l⟩
    rw [upd_ne (by rw [← hD]; exact Nat.ne_of_lt l)]
    exact (fi b hb).1
  have tn3 : tn 0 u3.heap := T.keep _ _ _ sti fun b _ o e => by rw [e3]; exact Heap.get?_push_of_some _ e
  have J4 := block_start J3 ok hN g3
  generalize hxe : (notedBy (model X.prog X.w) X.A (compEnvC scope (cellsFrom (u3.heap.objs.size + 1) scope.names (cloFrom X.env.cells scope.names [])) u3.heap.objs.size X.env) fun x s' => ∃ m, s'.heap.Ns u3.heap.objs.size m ∧ ∀ h', Heap.SameBut u3.heap.objs.size s'.heap h' → wpAny (model X.prog X.w) X.A (passOn "comprehension.variables-let-go" x (compEnvC scope (cellsFrom (u3.heap.objs.size + 1) scope.names (cloFrom X.env.cells scope.names [])) u3.heap.objs.size X.env) : Sem Value) (fun _ _ => False) X.xe { s' with heap := h' }) = xe
  have J4 := inv_toE J4 xe
  have tkb : Takes (CxE X scope u3 (upd Hi D (.lst [])) u3.heap.objs.size (cellsFrom (u3.heap.objs.size + 1) scope.names (cloFrom X.env.cells scope.names [])) fp xe) WB := takes_block hs hf tk J3 g3 hxe.symm hW
  have pg := hg u3 (upd Hi D (.lst [])) u3.heap.objs.size (cellsFrom (u3.heap.objs.size + 1) scope.names (cloFrom X.env.cells scope.names [])) fp xe
  have pt := ht u3 (upd Hi D (.lst [])) u3.heap.objs.size (cellsFrom (u3.heap.objs.size + 1) scope.names (cloFrom X.env.cells scope.names [])) fp xe
  have pe := he u3 (upd Hi D (.lst [])) u3.heap.objs.size (cellsFrom (u3.heap.objs.size + 1) scope.names (cloFrom X.env.cells scope.names [])) fp xe tkb
  show codeAny _ _ (.compStart (.ListComp elt [⟨tg, iter, ifs, 0⟩] scope pos) 0 (.ref it) (.ref D) (compEnvC scope (cellsFrom (u3.heap.objs.size + 1) scope.names (cloFrom X.env.cells scope.names [])) u3.heap.objs.size X.env)) (postC (model X.prog X.w) X.A X.xe Qf (.ref D) (compEnvC scope (cellsFrom (u3.heap.objs.size + 1) scope.names (cloFrom X.env.cells scope.names [])) u3.heap.objs.size X.env)) { u3 with heap := pushCells (u3.heap.push { cls := .type "dict", data := .dict #[] }) scope.names }
  have nofp : ∀ b ∈ fp, (upd Hi D (.lst [])) b = none := fun b hb => (g3 b hb).1.1
  generalize hcel : cellsFrom (u3.heap.objs.size + 1) scope.names (cloFrom X.env.cells scope.names []) = cel at J4 tkb pg pt pe hxe ⊢
  generalize hH3 : upd Hi D (.lst []) = H3 at J3 J4 tkb pg pt pe w0 nofp g3
  generalize hu4 : ({ u3 with heap := pushCells (u3.heap.push { cls := .type "dict", data := .dict #[] }) scope.names } : Shared) = u4 at J4 ⊢
  have tn4 : tn 0 u4.heap := T.keep _ _ _ tn3 fun b _ o e => by rw [← hu4]; exact pushCells_keeps _ _ _ _ (Heap.get?_push_of_some _ e)
  have stat : ∀ {σ' : L2.St} {H' : Hp} {s' : Shared}, Inv (CxE X scope u3 H3 u3.heap.objs.size cel fp xe) [] σ' H' s' → (∀ b ∈ fp, H' b = none) → ∀ b ∈ fp, FpOk (CxE X scope u3 H3 u3.heap.objs.size cel fp xe) [] H' b := fun {σ' H' s'} K hn b hb =>
    ⟨hn b hb, (K.ok.exf b hb).1, K.ok.exfs b hb, .inl hb, fun x c e => (K.ok.exf b hb).2 x c e, fun p hp => absurd (show p ∈ ([] : List (Addr × Obj)) ++ [] from hp) (by simp)⟩
  have loop : codeAny (model X.prog X.w) X.A (.compLoop (.ListComp elt [⟨tg, iter, ifs, 0⟩] scope pos) 0 (.ref it) (.ref D) (compEnvC scope cel u3.heap.objs.size X.env)) (postC (model X.prog X.w) X.A X.xe Qf (.ref D) (compEnvC scope cel u3.heap.objs.size X.env)) u4 := by
    refine compLoop_any (fun n s' => ∃ i H', Inv (CxE X scope u3 H3 u3.heap.objs.size cel fp xe) [] (L2.wipe σ (own.map (·.2))) H' s' ∧ tn i s'.heap ∧ (∀ b ∈ fp, H' b = none) ∧ W i n H') ?_ m0 ⟨0, H3, J4, tn4, nofp, w0⟩
    have conv : ∀ u s', xe u s' → notedBy (model X.prog X.w) X.A (compEnvC scope cel u3.heap.objs.size X.env) (fun e s' => postC (model X.prog X.w) X.A X.xe Qf (.ref D) (compEnvC scope cel u3.heap.objs.size X.env) (.error e) s') u s' := fun u s' z => by
      rw [← hxe] at z
      exact z
    rintro n u5 ⟨i, H5, J5, tn5, n5, w5⟩
    rcases turn i n H5 w5 with ⟨stop, qq⟩ | ⟨go, Nx, hNx, step⟩
    · refine thnF (T.done (CxE X scope u3 H3 u3.heap.objs.size cel fp xe) rfl rfl rfl hc i [] u5 _ H5 (fun _ _ => False) J5 (stat J5 n5) tn5 stop) fun r u6 ⟨hr, J6⟩ => ?_
      subst hr
      have J7 : Inv X pins σ H5 u6 := J3.call' (ch := fp) J6.os J6.base J6.hok J6.bare fun b hb => ⟨(g3 b hb).1.2.2.2.1, (g3 b hb).1.2.1, (g3 b hb).1.2.2.2.2.1, (g3 b hb).1.2.2.2.2.2⟩
      have nC : H5 u3.heap.objs.size = none := J6.free
      obtain ⟨m, hn, _⟩ := J6.loc
      exact hR D (compEnvC scope cel u3.heap.objs.size X.env) u6 m H5 J7 qq hn (J3.fpOk (Nat.le_refl _) nC)
    · refine thnF (T.item (CxE X scope u3 H3 u3.heap.objs.size cel fp xe) rfl rfl rfl hc i [] u5 _ H5 (fun _ _ => False) J5 (stat J5 n5) tn5 go) fun r u6 ⟨v, hr, k6⟩ => ?_
      subst hr
      refine thnF k6 fun _ u7 ⟨x, H7, J7, r7, y7, tn7, n7⟩ => ?_
      have J7' := J7.pinned (stat J7 n7) (T.obj _ _ tn7)
      refine wpAny_mono (pg.run _ u7 _ H7 x v _ J7' r7 (step x H7 y7)) (fun _ u8 ⟨σ8, H8, J8, hw8, q8⟩ => ?_) conv
      refine wpAny_mono (pt.run _ u8 σ8 H8 _ J8 q8) (fun b u9 ⟨H9, J9, q9⟩ => ?_) conv
      have fin : ∀ {s' : Shared} {H' : Hp}, Inv (CxE X scope u3 H3 u3.heap.objs.size cel fp xe) ([] ++ pinsAt fp u7.heap) σ8 H' s' → Nx H' → ∃ m, m < n ∧ ∃ i H', Inv (CxE X scope u3 H3 u3.heap.objs.size cel fp xe) [] (L2.wipe σ (own.map (·.2))) H' s' ∧ tn i s'.heap ∧ (∀ b ∈ fp, H' b = none) ∧ W i m H' := fun {s' H'} K nx => by
        obtain ⟨m', hm, w'⟩ := hNx H' nx
        have pinned : ∀ b ∈ fp, ∀ o, u7.heap.get? b = some o → s'.heap.get? b = some o ∧ H' b = none := fun b hb o e =>
          let z := K.pin (b, o) (List.mem_append_right _ (List.mem_append_right _ (mem_pinsAt hb e))); ⟨z.1, z.2.1⟩
        refine ⟨m', hm, i + 1, H', (K.unpinned (pins := [])).weak (by rw [← hw8, wipe_length]) (fun j v e => by rw [← hw8] at e; exact (wipe_some e).1), T.keep _ _ _ tn7 fun b hb o e => (pinned b hb o e).1, fun b hb => ?_, w'⟩
        obtain ⟨o, e, _⟩ := T.obj _ _ tn7 b hb
        exact (pinned b hb o e).2
      cases b with
      | false =>
        simp only [Bool.false_eq_true, if_false] at q9 ⊢
        exact fin J9 q9
      | true =>
        simp only [if_true] at q9 ⊢
        refine wpAny_mono (pe.run _ u9 σ8 H9 _ J9 q9) (fun z u10 ⟨yv, H10, J10, r10, acc, hD10, hz10, nx⟩ => ?_) conv
        exact app_ok (X := CxE X scope u3 H3 u3.heap.objs.size cel fp xe) J10 hD10 hz10 r10 fun u11 J11 => fin J11 nx
  exact codeAny_compStart_list loop (T.self X.A 0 _ _ _ tn4 loop)
theorem pe_lcE {te : L2.St → TE} {WB : L2.St → WX} (hs : X.stack = X.env :: X.outer) (hf : X.env.frame = some X.env.locals) (tk : Takes X WO) (hW : ∀ σ cls d σ' H', WB σ cls d σ' H' → WO cls d σ H')
    (hc : X.calm = true) (hN : X.N.Nodup) (hi : PI X tg iter wi) (ok : BlkOk X.N X.env.scope scope own)
    (hg : ∀ s H C cl fp xe, PG (CxE X scope s H C cl fp xe) tg g) (ht : ∀ s H C cl fp xe, PTs (CxE X scope s H C cl fp xe) ifs tt)
    (he : ∀ σ s H C cl fp xe, Takes (CxE X scope s H C cl fp xe) (WB σ) → PE (CxE X scope s H C cl fp xe) elt (te σ)) (hfo : ∀ x, foldedSetIterable iter X.env x = pure x := by intro _; rfl) :
    PE X (.ListComp elt [⟨tg, iter, ifs, 0⟩] scope pos) (tLcE wi g tt te (own.map (·.2))) := by
  refine ⟨fun pins s σ H Q I h => ?_⟩
  rw [eval_ListComp]
  refine lcE_core hs hf tk (hW σ) hc hN I hi ok hg ht (he σ) hfo h fun D ce s' m H' I' q hn f => ⟨m, hn, fun h2 sb => ?_⟩
  obtain ⟨f0, f1, f2, f3, f4, f5⟩ := f
  exact ⟨.ref D, H', I'.turned (t' := s'.toks) (fun b o hb e => (sb.2 b hb).trans e) f0 f1 f3 f4 f5, rfl, q⟩
end
/-- within a comprehension that starts at the slots σ -/
def Cy.thr (Y : Cy) (σ : L2.St) : Cy := { Y with Wx := fun cls d _ H => Y.Wx cls d σ H }
theorem compX_step {b : BX} {t f : EX} {ps : List PV} {i : Nat} {p : PV} (h : ps[i]? = some p) (env : Ev) : compX b t f (ps.drop i) env = match b p env with
    | .ok e => (match t e with
      | .ok (.bl true) => (f e).bind fun y => (compX b t f (ps.drop (i + 1)) env).bind fun r => .ok (y :: r)
      | .ok (.bl false) => compX b t f (ps.drop (i + 1)) env
      | _ => .bad)
    | _ => .bad := by
  have hi := (List.getElem?_eq_some_iff.mp h).1
  have e : ps.drop i = p :: ps.drop (i + 1) := by
    rw [List.drop_eq_getElem_cons hi, (List.getElem?_eq_some_iff.mp h).2]
  rw [e]
  rfl
section
variable {X : Cx} {Y : Cy} {elt tg iter : Expr} {ifs : List Expr} {scope : Scope} {own : List (Str × Nat)} {pos : Pos} {g : TG} {b : BX} {it : AX} {t f : EX} {is : List Nat}
theorem t_compX (hb : BG Y g b is) (hw : ∀ σ : L2.St, L2.wipe (L2.wipe σ is) is = L2.wipe σ is) :
    ∀ σ H Q, tF Y (aCompX is b it t f) σ H Q → tLcE (tIc Y it) g (tT Y.calm t) (fun σ => tP (Y.thr σ) f) is σ H Q := by
  intro σ H Q ⟨W, env, E, r⟩
  refine ⟨W, env, E, (RP.bind E.ho r).mono fun W1 H1 ps s1 k1 J w => ?_⟩
  intro D hD
  have E1 : EnvR Y.calm W1 H1 (L2.wipe σ is) (wipeE env is) := ((E.step s1).wish _).wipe is
  unfold compXK at k1
  by_cases hl : ps.length ≤ 1000000
  · rw [if_pos hl] at k1
    generalize eR : compX b t f ps (wipeE env is) = R0 at k1
    have nbad : R0 ≠ .bad := fun z => by rw [z] at k1; exact k1
    refine ⟨fun i m H => m = ps.length - i ∧ i ≤ ps.length ∧ ∃ W2 acc vacc, Stp W1 H1 W2 H ∧ H D = some (.lst vacc) ∧ W2 D = none ∧ RepL Y.O W2 acc vacc ∧ acc.length ≤ i ∧ ((compX b t f (ps.drop i) (wipeE env is)).bind fun rest => .ok (acc ++ rest)) = R0, ⟨ps.length, by simp, Nat.zero_le _, W1, [], [], Stp.new0 E1.ho hD, upd_same, E1.ho.none hD, RepL.nil, by simp, by rw [List.drop_zero, eR]; cases R0 <;> simp⟩, ?_⟩
    rintro i m H2 ⟨rfl, hi, W2, acc, vacc, st, hd, hwd, ra, hla, ecd⟩
    by_cases hlt : i < ps.length
    · refine .inr ⟨w.go i W2 H2 hlt st, fun H' => ∃ W2 acc vacc, Stp W1 H1 W2 H' ∧ H' D = some (.lst vacc) ∧ W2 D = none ∧ RepL Y.O W2 acc vacc ∧ acc.length ≤ i + 1 ∧ ((compX b t f (ps.drop (i + 1)) (wipeE env is)).bind fun rest => .ok (acc ++ rest)) = R0, fun H' z => ⟨ps.length - (i + 1), by omega, rfl, hlt, z⟩, fun x H' y => ?_⟩
      obtain ⟨W3, p, t3, hp, rp⟩ := w.yld i W2 H2 x H' hlt st y
      rw [compX_step hp] at ecd
      have st3 := st.trans E1.ho t3
      have d3 := t3.own hd hwd
      have ra3 := ra.mono t3.le
      cases hbe : b p (wipeE env is) with
      | ok e =>
        rw [hbe] at ecd
        dsimp only at ecd
        refine hb W3 H' (L2.wipe σ is) (wipeE env is) e p x _ (E1.step st3) rp hbe fun σ' E' hwi => ⟨by rw [hwi, hw], W3, e, E', ?_⟩
        cases hte : t e with
        | ok q =>
          rw [hte] at ecd
          cases q with
          | bl bb =>
            cases bb with
            | true =>
              dsimp only at ecd
              intro W4 H4 t4
              refine ⟨true, rfl, ?_⟩
              dsimp only
              rw [if_pos rfl]
              have st4 := st3.trans E1.ho t4
              refine ⟨W4, e, (E'.step t4).wish _, ?_⟩
              cases hfe : f e with
              | ok yv =>
                rw [hfe] at ecd
                intro W5 H5 t5 v rv
                have st5 := st4.trans E1.ho t5
                have d4 := t4.own d3.1 d3.2
                have d5 := t5.own d4.1 d4.2
                refine ⟨vacc, d5.1, by rw [← ra.len]; exact size_lt (by omega), W5, acc ++ [yv], vacc ++ [v], ?_, upd_same, d5.2, ((ra3.mono t4.le).mono t5.le).app (RepL.cons rv RepL.nil), by simp; omega, ?_⟩
                · exact st5.mut d5.2 hD
                · rw [← ecd, R.bind_ok]
                  cases compX b t f (ps.drop (i + 1)) (wipeE env is) <;> simp
              | ex y =>
                rw [hfe] at ecd
                have e0 : R0 = .ex y := by rw [← ecd]; rfl
                rw [e0] at k1
                exact fun W5 H5 cls d t5 z => k1 W5 H5 cls d (st4.trans E1.ho t5) z
              | bad =>
                rw [hfe] at ecd
                exact (nbad (by rw [← ecd]; rfl)).elim
            | false =>
              dsimp only at ecd
              intro W4 H4 t4
              refine ⟨false, rfl, ?_⟩
              dsimp only
              rw [if_neg Bool.false_ne_true]
              have d4 := t4.own d3.1 d3.2
              exact ⟨W4, acc, vacc, st3.trans E1.ho t4, d4.1, d4.2, ra3.mono t4.le, by omega, ecd⟩
          | _ => exact (nbad (by rw [← ecd]; rfl)).elim
        | ex _ => rw [hte] at ecd; exact (nbad (by rw [← ecd]; rfl)).elim
        | bad => rw [hte] at ecd; exact (nbad (by rw [← ecd]; rfl)).elim
      | ex _ => rw [hbe] at ecd; exact (nbad (by rw [← ecd]; rfl)).elim
      | bad => rw [hbe] at ecd; exact (nbad (by rw [← ecd]; rfl)).elim
    · have e : i = ps.length := by omega
      subst e
      refine .inl ⟨w.stop W2 H2 st, ?_⟩
      rw [List.drop_length] at ecd
      have e0 : R0 = .ok acc := by rw [← ecd]; show R.ok (acc ++ []) = _; rw [List.append_nil]
      rw [e0] at k1
      exact k1 W2 H2 st D vacc (s1.back E.ho hD) hwd hd ra
  · rw [if_neg hl] at k1; exact False.elim k1
/-- [..] as a new list; an element may raise -/
theorem gf_compX (own : List (Str × Nat)) (hs : X.stack = X.env :: X.outer) (hf : X.env.frame = some X.env.locals) (tk : Takes X Y.Wx) (hc : X.calm = true) (hN : X.N.Nodup) (hi : PI X tg iter (tIc Y it)) (ok : blkC X.N X.env.scope scope own = true) (hb : BG Y g b (own.map (·.2)))
    (hg : ∀ s H C cl fp xe, PG (CxE X scope s H C cl fp xe) tg g) (ht : ∀ s H C cl fp xe, PTs (CxE X scope s H C cl fp xe) ifs (tT Y.calm t)) (he : ∀ σ s H C cl fp xe, Takes (CxE X scope s H C cl fp xe) (Y.thr σ).Wx → PE (CxE X scope s H C cl fp xe) elt (tP (Y.thr σ) f)) (hfo : ∀ x, foldedSetIterable iter X.env x = pure x := by intro _; rfl) :
    PE X (.ListComp elt [⟨tg, iter, ifs, 0⟩] scope pos) (tF Y (aCompX (own.map (·.2)) b it t f)) :=
  pe_imp (pe_lcE (WB := fun σ => (Y.thr σ).Wx) hs hf tk (fun σ cls d σ' H' z => z) hc hN hi (blkOk_by ok) hg ht he hfo) (t_compX hb fun σ => wipe_sub fun _ h => h)
end
end JP

set_option linter.all false
set_option maxRecDepth 100000
namespace LK
open JP
def b_law_numbers : SX :=
 sSeq (sAsg 3 (eCB (on2 pMax2) (aCons (eBor 0) (aCons (eOp pSub (eUn pNeg (eC (.int 1))) (eBor 0)) aNil))))
 (sSeq (sAsg 4 (eVar 3))
 (sSeq (sOwn 5 (aNil))
 (sSeq (sFor (bName 6) (lUn iRn1 (eCB (on1 pLen) (aCons (eBor 2) aNil)))
 (sIf (eAnd (eOp pGe (eBor 3) (eOp pPow (eC (.int 10)) (eC (.int 18)))) (eOp pGt (eBor 4) (eC (.int 0))))
 (sSeq (sApp 5 (eOp pMod (eBor 4) (eOp pIx (eBor 2) (eBor 6))))
 (sAsg 4 (eOp pDiv (eBor 4) (eOp pIx (eBor 2) (eBor 6)))))
 (sSeq (sAsg 7 (eOp pMod (eOp pPow (eOp pAdd (eOp pAdd (eOp pMod (eBor 3) (eC (.int 2147483629))) (eOp pMul (eC (.int 7919)) (eBor 1))) (eC (.int 1))) (eC (.int 3))) (eC (.int 2147483647))))
 (sSeq (sAsg 7 (eOp pMod (eOp pMul (eOp pAdd (eBor 7) (eOp pMul (eC (.int 104729)) (eOp pAdd (eBor 6) (eC (.int 1))))) (eOp pAdd (eBor 6) (eC (.int 3)))) (eC (.int 2147483629))))
 (sSeq (sAsg 7 (eOp pMod (eOp pMul (eOp pMod (eOp pPow (eBor 7) (eC (.int 5))) (eC (.int 2147483647))) (eC (.int 48271))) (eC (.int 2147483629))))
 (sApp 5 (eOp pMod (eOp pDiv (eBor 7) (eC (.int 16))) (eOp pIx (eBor 2) (eBor 6)))))))))
 (sRetO 5))))
def m_law_numbers : List PV → R (List PV) := mkF 8 [false, false, true] b_law_numbers
def b_law_signs : SX :=
 sSeq (sAsg 1 (eC (.str [32, 33, 34, 35, 36, 38, 39, 40, 41, 42, 43, 44, 45, 46, 47, 48, 49, 50, 51, 52, 53, 54, 55, 56, 57, 58, 59, 60, 61, 62, 63, 64, 65, 66, 67, 68, 69, 70, 71, 72, 73, 74, 75, 76, 77, 78, 79, 80, 81, 82, 83, 84, 85, 86, 87, 88, 89, 90, 91, 92, 93, 94, 95, 96])))
 (sSeq (sAsg 1 (eOp pAdd (eBor 1) (eC (.str [97, 98, 99, 100, 101, 102, 103, 104, 105, 106, 107, 108, 109, 110, 111, 112, 113, 114, 115, 116, 117, 118, 119, 120, 121, 122, 123, 124, 125, 126]))))
 (sSeq (sAsg 2 (eC (.str [])))
 (sSeq (sFor (bName 3) (lUn iSeq (eQ 0))
 (sSeq (sAsg 4 (eOp pAdd (eSlS (eBor 1) (oSome (eVar 3)) (oNo)) (eSlS (eBor 1) (oNo) (oSome (eVar 3)))))
 (sAsg 2 (eOp pAdd (eBor 2) (eOp pIx (eFrz (aComp [5] (bName 5) (lUn iTxt (eBor 4)) (eOp pNinS (eBor 5) (eBor 2)) (eVar 5))) (eC (.int 0)))))))
 (sRet (eVar 2)))))
def m_law_signs : List PV → R PV := mkP 6 [true] b_law_signs
def b_law_rows : SX :=
 sSeq (sOwn 2 (lCB (on1 lOf) (aCons (eBor 0) aNil)))
 (sSeq (sOwn 3 (aNil))
 (sSeq (sFor (bName 4) (lUn iRn1 (eOp pDiv (eCB (on1 pLen) (aCons (eBor 1) aNil)) (eC (.int 2))))
 (sSeq (sAsg 5 (eOp pIx (eBor 2) (eOp pMod (eOp pIx (eBor 1) (eOp pMul (eC (.int 2)) (eBor 4))) (eCB (on1 pLen) (aCons (eBor 2) aNil)))))
 (sSeq (sAsg 6 (eOp pIx (eBor 2) (eOp pMod (eOp pIx (eBor 1) (eOp pAdd (eOp pMul (eC (.int 2)) (eBor 4)) (eC (.int 1)))) (eCB (on1 pLen) (aCons (eBor 2) aNil)))))
 (sIf (eAnd (eOp pLe (eCB (on1 pLen) (aCons (eOp pAdd (eBor 5) (eBor 6)) aNil)) (eC (.int 16))) (eAnd (eOp pNinL (eOp pAdd (eBor 5) (eBor 6)) (eBor 2)) (eOp pLt (eCB (on1 pLen) (aCons (eBor 3) aNil)) (eC (.int 24)))))
 (sSeq (sApp 3 (eTup (aCons (eVar 5) (aCons (eVar 6) (aNil)))))
 (sApp 2 (eOp pAdd (eBor 5) (eBor 6))))
 (sNil)))))
 (sRetO 3)))
def m_law_rows : List PV → R (List PV) := mkF 7 [false, true] b_law_rows
def b_law_table : SX :=
 sSeq (sAsg 3 (eFrz (lCall m_law_numbers (aCons (eVar 0) (aCons (eVar 1) (aCons (eFrz (lOp lCat (eFrz (lOp lCat (eFrz (aCons (eC (.int 4)) (aCons (eC (.int 12)) (aCons (eC (.int 3)) (aCons (eC (.int 4)) (aCons (eC (.int 4)) (aCons (eOp pAdd (eBor 2) (eC (.int 1))) (aNil)))))))) (eFrz (lOp lRep (eFrz (aCons (eC (.int 94)) (aNil))) (eC (.int 12)))))) (eFrz (lOp lRep (eFrz (aCons (eC (.int 36)) (aNil))) (eOp pMul (eC (.int 2)) (eBor 2)))))) (aNil)))))))
 (sSeq (sAsg 4 (eOp pAdd (eC (.int 1)) (eOp pIx (eFrz (aCons (eOp pIx (eBor 3) (eC (.int 2))) (aCons (eOp pIx (eBor 3) (eC (.int 2))) (aCons (eOp pIx (eBor 3) (eC (.int 3))) (aCons (eOp pIx (eBor 3) (eC (.int 1))) (aNil)))))) (eOp pIx (eBor 3) (eC (.int 0))))))
 (sSeq (sAsg 5 (eCall m_law_signs (aCons (eFrz (lSl (eBor 3) (oSome (eC (.int 6))) (oSome (eOp pAdd (eC (.int 6)) (eBor 4))))) (aNil))))
 (sSeq (sAsg 6 (eFrz (lCall m_law_rows (aCons (eVar 5) (aCons (eFrz (lSl (eBor 3) (oSome (eC (.int 18))) (oNo))) (aNil))))))
 (sSeq (sIf (eOp pEq (eOp pIx (eBor 3) (eC (.int 4))) (eC (.int 0)))
 (sAsg 6 (eFrz (lSl (eBor 6) (oNo) (oSome (eOp pIx (eBor 3) (eC (.int 5)))))))
 (sNil))
 (sRet (eTup (aCons (eVar 5) (aCons (eVar 6) (aNil)))))))))
def m_law_table : List PV → R PV := mkP 7 [false, false, false] b_law_table
def b_is_sign : SX :=
 sRet (eAnd (eUn (pIsi "str") (eBor 0)) (eAnd (eOp pEq (eCB (on1 pLen) (aCons (eBor 0) aNil)) (eC (.int 1))) (eOp pInS (eBor 0) (eC (.str [32, 33, 34, 35, 36, 38, 39, 40, 41, 42, 43, 44, 45, 46, 47, 48, 49, 50, 51, 52, 53, 54, 55, 56, 57, 58, 59, 60, 61, 62, 63, 64, 65, 66, 67, 68, 69, 70, 71, 72, 73, 74, 75, 76, 77, 78, 79, 80, 81, 82, 83, 84, 85, 86, 87, 88, 89, 90, 91, 92, 93, 94, 95, 96, 97, 98, 99, 100, 101, 102, 103, 104, 105, 106, 107, 108, 109, 110, 111, 112, 113, 114, 115, 116, 117, 118, 119, 120, 121, 122, 123, 124, 125, 126])))))
def m_is_sign : List PV → R PV := mkP 1 [false] b_is_sign
def b_look_at_signs : SX :=
 sSeq (sIf (eOr (eNot (eUn (pIsi "str") (eBor 0))) (eNot (eChain pLe pLe (eC (.int 1)) (eCB (on1 pLen) (aCons (eBor 0) aNil)) (eC (.int 12)))))
 (sRaise "NoTable" ["part", "number"] (aCons (eC (.str [115, 105, 103, 110, 115])) (aCons (eC .non) (aNil))))
 (sNil))
 (sFor (bTup2 1 2) (lUn iEnS (eBor 0))
 (sIf (eOr (eNot (eCall m_is_sign (aCons (eVar 2) (aNil)))) (eOp pInS (eBor 2) (eSlS (eBor 0) (oNo) (oSome (eVar 1)))))
 (sRaise "NoTable" ["part", "number"] (aCons (eC (.str [115, 105, 103, 110, 115])) (aCons (eVar 1) (aNil))))
 (sNil)))
def m_look_at_signs : List PV → R PV := mkP 3 [false] b_look_at_signs
def b_is_row : SX :=
 sSeq (sIf (eOr (eNot (eUn (pIsi "tuple") (eBor 1))) (eOp pNe (eCB (on1 pLen) (aCons (eBor 1) aNil)) (eC (.int 2))))
 (sRet (eC (.bl false)))
 (sNil))
 (sSeq (sUnp (bTup2 2 3) (eVar 1))
 (sSeq (sIf (eOr (eNot (eUn (pIsi "str") (eBor 2))) (eNot (eUn (pIsi "str") (eBor 3))))
 (sRet (eC (.bl false)))
 (sNil))
 (sSeq (sIf (eOr (eOp pDNin (eBor 2) (eBor 0)) (eOp pDNin (eBor 3) (eBor 0)))
 (sRet (eC (.bl false)))
 (sNil))
 (sRet (eAnd (eOp pLe (eOp pAdd (eCB (on1 pLen) (aCons (eBor 2) aNil)) (eCB (on1 pLen) (aCons (eBor 3) aNil))) (eC (.int 16))) (eOp pDNin (eOp pAdd (eBor 2) (eBor 3)) (eBor 0)))))))
def m_is_row : List PV → R PV := mkP 4 [true, false] b_is_row
def b_Table___init__ : SX :=
 sSeq (sExp (eCall m_look_at_signs (aCons (eVar 1) (aNil))))
 (sSeq (sIf (eOr (eNot (eUn (pIsi "list") (eBor 2))) (eOp pGt (eCB (on1 pLen) (aCons (eBor 2) aNil)) (eC (.int 24))))
 (sRaise "NoTable" ["part", "number"] (aCons (eC (.str [114, 111, 119, 115])) (aCons (eC .non) (aNil))))
 (sNil))
 (sSeq (sFst 0 0 "kept_signs" (eVar 1))
 (sSeq (sFnd 0 0 "by_text" false)
 (sSeq (sFor (bTup2 3 4) (lUn iEnS (eBor 1))
 (sFpt 0 0 "by_text" (eBor 4) (eVar 3)))
 (sSeq (sFnd 0 0 "by_pair" true)
 (sSeq (sFor (bTup2 5 6) (lUn iEnL (eQ 2))
 (sSeq (sIf (eNot (eCall m_is_row (aCons (eFv 0 0 "by_text") (aCons (eVar 6) (aNil)))))
 (sRaise "NoTable" ["part", "number"] (aCons (eC (.str [114, 111, 119, 115])) (aCons (eVar 5) (aNil))))
 (sNil))
 (sSeq (sFpt 0 0 "by_pair" (eBor 6) (eVar 5))
 (sFpt 0 0 "by_text" (eOp pAdd (eOp pIx (eBor 6) (eC (.int 0))) (eOp pIx (eBor 6) (eC (.int 1)))) (eOp pAdd (eCB (on1 pLen) (aCons (eBor 1) aNil)) (eBor 5))))))
 (sSeq (sFst 0 0 "kept_rows" (eFrz (lCB (on1 lOf) (aCons (eBor 2) aNil))))
 (sFst 0 0 "kept_pieces" (eFrz (lCB (on1 lKeys) (aCons (eFv 0 0 "by_text") aNil)))))))))))
def m_Table___init__ : List PV → R (List PV) := mkI 0 ["kept_signs", "by_text", "by_pair", "kept_rows", "kept_pieces"] 7 [false, true] b_Table___init__
def b_law_made : SX :=
 sSeq (sNewD 1 false)
 (sSeq (sFor (bTup2 2 3) (lUn iSeq (eQ 0))
 (sDpt 1 (eOp pAdd (eBor 2) (eBor 3)) (eTup (aCons (eVar 2) (aCons (eVar 3) (aNil))))))
 (sFrz 1 (sRet (eVar 1))))
def m_law_made : List PV → R PV := mkP 4 [true] b_law_made
def b_law_pieces : SX :=
 sRetF (lOp lCat (eFrz (lCB (on1 lOf) (aCons (eBor 0) aNil))) (eFrz (aComp [2, 3] (bTup2 2 3) (lUn iSeq (eBor 1)) (eC (.bl true)) (eOp pAdd (eBor 2) (eBor 3)))))
def m_law_pieces : List PV → R (List PV) := mkF 4 [false, true] b_law_pieces
noncomputable def b_law_edge : SX :=
 sSeq (sOwn 3 (aCons (eVar 1) (aNil)))
 (sSeq (sWh (eOp pDIn (eOp pIx (eBor 3) (eUn pNeg (eC (.int 1)))) (eBor 0))
 (sApp 3 (eOp pIx (eOp pDGet (eBor 0) (eOp pIx (eBor 3) (eUn pNeg (eC (.int 1))))) (eBor 2))))
 (sRetO 3))
noncomputable def m_law_edge : List PV → R (List PV) := mkF 4 [true, false, false] b_law_edge
def b_Table_which : SX :=
 sSeq (sIf (eNot (eUn (pIsi "str") (eBor 1)))
 (sRet (eC .non))
 (sNil))
 (sRet (eGet1 (eAt 0 1 (eVar 0)) (eBor 1)))
def m_Table_which : List PV → R PV := mkP 2 [false, false] b_Table_which
def b_Table_parts : SX :=
 sSeq (sAsg 2 (eMeth 0 m_Table_which (eVar 0) (aCons (eVar 1) (aNil))))
 (sSeq (sIf (eOp pIs2 (eBor 2) (eC .non))
 (sRaise "NoPiece" ["place"] (aCons (eC .non) (aNil)))
 (sNil))
 (sSeq (sIf (eOp pLt (eBor 2) (eCB (on1 pLen) (aCons (eAt 0 0 (eVar 0)) aNil)))
 (sRet (eC .non))
 (sNil))
 (sRet (eOp pIx (eAt 0 3 (eVar 0)) (eOp pSub (eBor 2) (eCB (on1 pLen) (aCons (eAt 0 0 (eVar 0)) aNil)))))))
def m_Table_parts : List PV → R PV := mkP 3 [false, false] b_Table_parts
noncomputable def b_edge : SX :=
 sSeq (sOwn 3 (aCons (eVar 1) (aNil)))
 (sSeq (sAsg 4 (eMeth 0 m_Table_parts (eVar 0) (aCons (eVar 1) (aNil))))
 (sSeq (sWh (eOp pNot2 (eBor 4) (eC .non))
 (sSeq (sApp 3 (eOp pIx (eBor 4) (eBor 2)))
 (sAsg 4 (eMeth 0 m_Table_parts (eVar 0) (aCons (eOp pIx (eBor 4) (eBor 2)) (aNil))))))
 (sRetO 3)))
noncomputable def m_edge : List PV → R (List PV) := mkF 5 [false, false, false] b_edge
def b_look_at_piece : SX :=
 sIf (eOp pIs2 (eMeth 0 m_Table_which (eVar 0) (aCons (eVar 1) (aNil))) (eC .non))
 (sRaise "NoPiece" ["place"] (aCons (eC .non) (aNil)))
 (sNil)
def m_look_at_piece : List PV → R PV := mkP 2 [false, false] b_look_at_piece
noncomputable def b_right_edge : SX :=
 sSeq (sExp (eCall m_look_at_piece (aCons (eVar 0) (aCons (eVar 1) (aNil)))))
 (sRetF (lCall m_edge (aCons (eVar 0) (aCons (eVar 1) (aCons (eC (.int 1)) (aNil))))))
noncomputable def m_right_edge : List PV → R (List PV) := mkF 2 [false, false] b_right_edge
noncomputable def b_left_edge : SX :=
 sSeq (sExp (eCall m_look_at_piece (aCons (eVar 0) (aCons (eVar 1) (aNil)))))
 (sRetF (lCall m_edge (aCons (eVar 0) (aCons (eVar 1) (aCons (eC (.int 0)) (aNil))))))
noncomputable def m_left_edge : List PV → R (List PV) := mkF 2 [false, false] b_left_edge
def b_Table_rows : SX :=
 sRetF (lCB (on1 lOf) (aCons (eAt 0 3 (eVar 0)) aNil))
def m_Table_rows : List PV → R (List PV) := mkF 1 [false] b_Table_rows
def b_Table_pieces : SX :=
 sRetF (lCB (on1 lOf) (aCons (eAt 0 4 (eVar 0)) aNil))
def m_Table_pieces : List PV → R (List PV) := mkF 1 [false] b_Table_pieces
def b_law_cell_at : SX :=
 sSeq (sIf (eOp pLt (eBor 1) (eCB (on1 pLen) (aCons (eBor 0) aNil)))
 (sRet (eOp pIx (eBor 0) (eBor 1)))
 (sNil))
 (sRet (eC (.int 0)))
def m_law_cell_at : List PV → R PV := mkP 2 [true, false] b_law_cell_at
def b_law_text : SX :=
 sSeq (sAsg 4 (eFrz (lCall m_law_numbers (aCons (eVar 0) (aCons (eVar 1) (aCons (eFrz (lOp lCat (eFrz (aCons (eOp pAdd (eBor 3) (eC (.int 1))) (aNil))) (eFrz (lOp lRep (eFrz (aCons (eCB (on1 pLen) (aCons (eBor 2) aNil)) (aNil))) (eBor 3))))) (aNil)))))))
 (sRet (eM1 pJoin (eC (.str [])) (eFrz (aComp [5] (bName 5) (lUn iSeq (eFrz (lSl (eBor 4) (oSome (eC (.int 1))) (oSome (eOp pAdd (eC (.int 1)) (eOp pIx (eBor 4) (eC (.int 0)))))))) (eC (.bl true)) (eOp pIx (eBor 2) (eBor 5))))))
def m_law_text : List PV → R PV := mkP 6 [false, false, false, false] b_law_text
def b_Table_signs : SX :=
 sRet (eAt 0 0 (eVar 0))
def m_Table_signs : List PV → R PV := mkP 1 [false] b_Table_signs
def b_look_at_text : SX :=
 sSeq (sIf (eNot (eUn (pIsi "str") (eBor 1)))
 (sRaise "NoSign" ["place"] (aCons (eC .non) (aNil)))
 (sNil))
 (sSeq (sAsg 2 (eMeth 0 m_Table_signs (eVar 0) (aNil)))
 (sFor (bTup2 3 4) (lUn iEnS (eBor 1))
 (sIf (eOp pNinS (eBor 4) (eBor 2))
 (sRaise "NoSign" ["place"] (aCons (eVar 3) (aNil)))
 (sNil))))
def m_look_at_text : List PV → R PV := mkP 5 [false, false] b_look_at_text
def b_signs_of : SX :=
 sSeq (sExp (eCall m_look_at_text (aCons (eVar 0) (aCons (eVar 1) (aNil)))))
 (sRetF (lCB (on1 lOf) (aCons (eBor 1) aNil)))
def m_signs_of : List PV → R (List PV) := mkF 2 [false, false] b_signs_of
noncomputable def b_joined_row : SX :=
 sSeq (sOwn 3 (aNil))
 (sSeq (sAsg 4 (eC (.int 0)))
 (sSeq (sWh (eOp pLt (eBor 4) (eCB (on1 pLen) (aCons (eBor 0) aNil)))
 (sIf (eAnd (eOp pEq (eOp pIx (eBor 0) (eBor 4)) (eBor 1)) (eAnd (eOp pLt (eOp pAdd (eBor 4) (eC (.int 1))) (eCB (on1 pLen) (aCons (eBor 0) aNil))) (eOp pEq (eOp pIx (eBor 0) (eOp pAdd (eBor 4) (eC (.int 1)))) (eBor 2))))
 (sSeq (sApp 3 (eOp pAdd (eBor 1) (eBor 2)))
 (sAug pAdd2 4 (eC (.int 2))))
 (sSeq (sApp 3 (eOp pIx (eBor 0) (eBor 4)))
 (sAug pAdd2 4 (eC (.int 1))))))
 (sRetO 3)))
noncomputable def m_joined_row : List PV → R (List PV) := mkF 5 [true, false, false] b_joined_row
def b_look_at_row : SX :=
 sSeq (sIf (eNot (eUn (pIsi "list") (eBor 1)))
 (sRaise "NoPiece" ["place"] (aCons (eC .non) (aNil)))
 (sNil))
 (sFor (bTup2 2 3) (lUn iEnL (eQ 1))
 (sIf (eOp pIs2 (eMeth 0 m_Table_which (eVar 0) (aCons (eVar 3) (aNil))) (eC .non))
 (sRaise "NoPiece" ["place"] (aCons (eVar 2) (aNil)))
 (sNil)))
def m_look_at_row : List PV → R PV := mkP 4 [false, true] b_look_at_row
def b_is_whole : SX :=
 sRet (eAnd (eUn (pIsi "int") (eBor 0)) (eNot (eUn (pIsi "bool") (eBor 0))))
def m_is_whole : List PV → R PV := mkP 1 [true] b_is_whole
noncomputable def b_swept_from : SX :=
 sSeq (sExp (eCall m_look_at_row (aCons (eVar 0) (aCons (eBor 1) (aNil)))))
 (sSeq (sAsg 3 (eFrz (lMeth 0 m_Table_rows (eVar 0) (aNil))))
 (sSeq (sIf (eOr (eNot (eCall m_is_whole (aCons (eBor 2) (aNil)))) (eNot (eChain pLe pLe (eC (.int 0)) (eBor 2) (eCB (on1 pLen) (aCons (eBor 3) aNil)))))
 (sRaise "NoPlace" [] (aNil))
 (sNil))
 (sSeq (sOwn 4 (lCB (on1 lOf) (aCons (eBor 1) aNil)))
 (sSeq (sFor (bTup2 5 6) (lUn iSeq (eFrz (lSl (eBor 3) (oSome (eVar 2)) (oNo))))
 (sOwn 4 (lCall m_joined_row (aCons (eBor 4) (aCons (eVar 5) (aCons (eVar 6) (aNil)))))))
 (sRetO 4)))))
noncomputable def m_swept_from : List PV → R (List PV) := mkF 7 [false, true, false] b_swept_from
noncomputable def b_swept : SX :=
 sRetF (lCall m_swept_from (aCons (eVar 0) (aCons (eFrz (lCall m_signs_of (aCons (eVar 0) (aCons (eVar 1) (aNil))))) (aCons (eC (.int 0)) (aNil)))))
noncomputable def m_swept : List PV → R (List PV) := mkF 2 [false, false] b_swept
def b_law_cut : SX :=
 sSeq (sAsg 2 (eFrz (lCB (on1 lOf) (aCons (eBor 1) aNil))))
 (sSeq (sFor (bTup2 3 4) (lUn iSeq (eQ 0))
 (sSeq (sOwn 5 (aNil))
 (sSeq (sFor (bName 6) (lUn iSeq (eQ 2))
 (sIf (eAnd (eOp pEq (eBor 6) (eBor 4)) (eAnd (eOp pNe (eBor 5) (eFrz (aNil))) (eOp pEq (eOp pIx (eBor 5) (eUn pNeg (eC (.int 1)))) (eBor 3))))
 (sPut 5 (eUn pNeg (eC (.int 1))) (eOp pAdd (eBor 3) (eBor 4)))
 (sApp 5 (eVar 6))))
 (sFrz 5 (sAsg 2 (eVar 5))))))
 (sRet (eVar 2)))
def m_law_cut : List PV → R PV := mkP 7 [true, false] b_law_cut
def b_is_state : SX :=
 sRet (eAnd (eCall m_is_whole (aCons (eBor 1) (aNil))) (eChain pLe pLt (eC (.int 0)) (eBor 1) (eBor 0)))
def m_is_state : List PV → R PV := mkP 2 [false, true] b_is_state
def b_is_way : SX :=
 sSeq (sIf (eOr (eNot (eUn (pIsi "tuple") (eBor 1))) (eOp pNe (eCB (on1 pLen) (aCons (eBor 1) aNil)) (eC (.int 3))))
 (sRet (eC (.bl false)))
 (sNil))
 (sRet (eAnd (eCall m_is_state (aCons (eVar 0) (aCons (eOp pIx (eBor 1) (eC (.int 0))) (aNil)))) (eAnd (eCall m_is_sign (aCons (eOp pIx (eBor 1) (eC (.int 1))) (aNil))) (eCall m_is_state (aCons (eVar 0) (aCons (eOp pIx (eBor 1) (eC (.int 2))) (aNil)))))))
def m_is_way : List PV → R PV := mkP 2 [false, true] b_is_way
def b_Grammar___init__ : SX :=
 sSeq (sIf (eOr (eNot (eCall m_is_whole (aCons (eBor 1) (aNil)))) (eNot (eChain pLe pLe (eC (.int 1)) (eBor 1) (eC (.int 4)))))
 (sRaise "NoGrammar" ["part", "number"] (aCons (eC (.str [109, 97, 110, 121])) (aCons (eC .non) (aNil))))
 (sNil))
 (sSeq (sIf (eOr (eNot (eUn (pIsi "list") (eBor 2))) (eOp pGt (eCB (on1 pLen) (aCons (eBor 2) aNil)) (eC (.int 48))))
 (sRaise "NoGrammar" ["part", "number"] (aCons (eC (.str [119, 97, 121, 115])) (aCons (eC .non) (aNil))))
 (sNil))
 (sSeq (sFnd 2 0 "kept_by" true)
 (sSeq (sFor (bTup2 4 5) (lUn iEnL (eQ 2))
 (sSeq (sIf (eOr (eNot (eCall m_is_way (aCons (eVar 1) (aCons (eBor 5) (aNil))))) (eOp pDIn (eTup (aCons (eOp pIx (eBor 5) (eC (.int 0))) (aCons (eOp pIx (eBor 5) (eC (.int 1))) (aNil)))) (eFv 2 0 "kept_by")))
 (sRaise "NoGrammar" ["part", "number"] (aCons (eC (.str [119, 97, 121, 115])) (aCons (eVar 4) (aNil))))
 (sNil))
 (sFpt 2 0 "kept_by" (eTup (aCons (eOp pIx (eBor 5) (eC (.int 0))) (aCons (eOp pIx (eBor 5) (eC (.int 1))) (aNil)))) (eOp pIx (eBor 5) (eC (.int 2))))))
 (sSeq (sIf (eNot (eUn (pIsi "list") (eBor 3)))
 (sRaise "NoGrammar" ["part", "number"] (aCons (eC (.str [101, 110, 100, 115])) (aCons (eC .non) (aNil))))
 (sNil))
 (sSeq (sFor (bTup2 4 6) (lUn iEnL (eQ 3))
 (sIf (eOr (eNot (eCall m_is_state (aCons (eVar 1) (aCons (eBor 6) (aNil))))) (eOp pInL (eBor 6) (eFrz (lSl (eBor 3) (oNo) (oSome (eVar 4))))))
 (sRaise "NoGrammar" ["part", "number"] (aCons (eC (.str [101, 110, 100, 115])) (aCons (eVar 4) (aNil))))
 (sNil)))
 (sSeq (sFst 2 0 "kept_many" (eVar 1))
 (sSeq (sFst 2 0 "kept_ways" (eFrz (lCB (on1 lOf) (aCons (eBor 2) aNil))))
 (sFst 2 0 "kept_ends" (eFrz (lCB (on1 lOf) (aCons (eBor 3) aNil)))))))))))
def m_Grammar___init__ : List PV → R (List PV) := mkI 2 ["kept_by", "kept_many", "kept_ways", "kept_ends"] 7 [false, true, true] b_Grammar___init__
def b_law_grammar : SX :=
 sSeq (sAsg 3 (eFrz (lCall m_law_numbers (aCons (eVar 0) (aCons (eVar 1) (aCons (eFrz (lOp lCat (eFrz (lOp lCat (eFrz (aCons (eC (.int 4)) (aCons (eC (.int 2)) (aNil)))) (eFrz (lOp lRep (eFrz (aCons (eC (.int 60)) (aNil))) (eC (.int 48)))))) (eFrz (lOp lRep (eFrz (aCons (eC (.int 2)) (aNil))) (eC (.int 4)))))) (aNil)))))))
 (sSeq (sAsg 4 (eOp pAdd (eC (.int 1)) (eOp pIx (eBor 3) (eC (.int 0)))))
 (sSeq (sOwn 5 (aNil))
 (sSeq (sFor (bName 6) (lUn iRn1 (eVar 4))
 (sFor (bTup2 8 9) (lUn iEnS (eBor 2))
 (sSeq (sAsg 10 (eOp pMod (eOp pIx (eBor 3) (eOp pAdd (eOp pAdd (eC (.int 2)) (eOp pMul (eC (.int 12)) (eBor 6))) (eBor 8))) (eOp pAdd (eBor 4) (eC (.int 1)))))
 (sIf (eOp pLt (eBor 10) (eBor 4))
 (sApp 5 (eTup (aCons (eVar 6) (aCons (eVar 9) (aCons (eVar 10) (aNil))))))
 (sNil)))))
 (sSeq (sAsg 7 (eFrz (aComp [6] (bName 6) (lUn iRn1 (eVar 4)) (eOp pEq (eOp pIx (eBor 3) (eOp pAdd (eC (.int 50)) (eBor 6))) (eC (.int 1))) (eVar 6))))
 (sSeq (sIf (eOp pEq (eOp pIx (eBor 3) (eC (.int 1))) (eC (.int 1)))
 (sRet (eTup (aCons (eVar 4) (aCons (eFrz (lUn lRev (eBor 5))) (aCons (eFrz (lUn lRev (eBor 7))) (aNil))))))
 (sNil))
 (sFrz 5 (sRet (eTup (aCons (eVar 4) (aCons (eVar 5) (aCons (eVar 7) (aNil))))))))))))
def m_law_grammar : List PV → R PV := mkP 11 [false, false, false] b_law_grammar
def b_Grammar_many : SX :=
 sRet (eAt 2 1 (eVar 0))
def m_Grammar_many : List PV → R PV := mkP 1 [false] b_Grammar_many
def b_Grammar_ways : SX :=
 sRetF (lCB (on1 lOf) (aCons (eAt 2 2 (eVar 0)) aNil))
def m_Grammar_ways : List PV → R (List PV) := mkF 1 [false] b_Grammar_ways
def b_Grammar_ends : SX :=
 sRetF (lCB (on1 lOf) (aCons (eAt 2 3 (eVar 0)) aNil))
def m_Grammar_ends : List PV → R (List PV) := mkF 1 [false] b_Grammar_ends
def b_law_whole : SX :=
 sRet (eAnd (eUn (pIsi "int") (eBor 0)) (eNot (eUn (pIsi "bool") (eBor 0))))
def m_law_whole : List PV → R PV := mkP 1 [true] b_law_whole
def b_Grammar_leads : SX :=
 sSeq (sIf (eNot (eCall m_is_state (aCons (eAt 2 1 (eVar 0)) (aCons (eBor 1) (aNil)))))
 (sRaise "NoPlace" [] (aNil))
 (sNil))
 (sSeq (sIf (eNot (eUn (pIsi "str") (eBor 2)))
 (sRaise "NoSign" ["place"] (aCons (eC .non) (aNil)))
 (sNil))
 (sSeq (sAsg 3 (eVar 1))
 (sSeq (sFor (bName 4) (lUn iTxt (eBor 2))
 (sIf (eOp pNot2 (eBor 3) (eC .non))
 (sAsg 3 (eGet1 (eAt 2 0 (eVar 0)) (eTup (aCons (eVar 3) (aCons (eVar 4) (aNil))))))
 (sNil)))
 (sRet (eVar 3)))))
def m_Grammar_leads : List PV → R PV := mkP 5 [false, false, false] b_Grammar_leads
def b_law_leads : SX :=
 sSeq (sFor (bName 3) (lUn iTxt (eBor 2))
 (sIf (eOp pNot2 (eBor 1) (eC .non))
 (sAsg 1 (eGet1 (eBor 0) (eTup (aCons (eVar 1) (aCons (eVar 3) (aNil))))))
 (sNil)))
 (sRet (eVar 1))
def m_law_leads : List PV → R PV := mkP 4 [true, false, false] b_law_leads
def b_law_by : SX :=
 sSeq (sNewD 1 true)
 (sSeq (sFor (bTup [bName 2, bName 3, bName 4]) (lUn iSeq (eOp pIx (eBor 0) (eC (.int 1))))
 (sDpt 1 (eTup (aCons (eVar 2) (aCons (eVar 3) (aNil)))) (eVar 4)))
 (sFrz 1 (sRet (eVar 1))))
def m_law_by : List PV → R PV := mkP 5 [false] b_law_by
def b_Grammar_tells : SX :=
 sSeq (sAsg 2 (eMeth 2 m_Grammar_leads (eVar 0) (aCons (eC (.int 0)) (aCons (eVar 1) (aNil)))))
 (sRet (eAnd (eOp pNot2 (eBor 2) (eC .non)) (eOp pInL (eBor 2) (eAt 2 3 (eVar 0)))))
def m_Grammar_tells : List PV → R PV := mkP 3 [false, false] b_Grammar_tells
def b_law_tells : SX :=
 sSeq (sAsg 2 (eCall m_law_leads (aCons (eCall m_law_by (aCons (eVar 0) (aNil))) (aCons (eC (.int 0)) (aCons (eVar 1) (aNil))))))
 (sRet (eAnd (eOp pNot2 (eBor 2) (eC .non)) (eOp pInL (eBor 2) (eOp pIx (eBor 0) (eC (.int 2))))))
def m_law_tells : List PV → R PV := mkP 3 [false, false] b_law_tells
def b_law_pieces_at : SX :=
 sRetF (aComp [3] (bName 3) (lUn iSeq (eBor 0)) (eOp pEq (eSlS (eBor 1) (oSome (eVar 2)) (oSome (eOp pAdd (eBor 2) (eCB (on1 pLen) (aCons (eBor 3) aNil))))) (eBor 3)) (eVar 3))
def m_law_pieces_at : List PV → R (List PV) := mkF 4 [true, false, false] b_law_pieces_at
def b_law_splitting : SX :=
 sSeq (sOwn 3 (aNil))
 (sSeq (sAsg 4 (eC (.int 0)))
 (sSeq (sFor (bName 5) (lUn iRn1 (eCB (on1 pLen) (aCons (eBor 1) aNil)))
 (sIf (eOp pLt (eBor 4) (eCB (on1 pLen) (aCons (eBor 1) aNil)))
 (sSeq (sAsg 6 (eFrz (lCall m_law_pieces_at (aCons (eBor 0) (aCons (eVar 1) (aCons (eVar 4) (aNil)))))))
 (sSeq (sAsg 7 (eOp pIx (eBor 6) (eOp pMod (eOp pIx (eBor 2) (eBor 5)) (eCB (on1 pLen) (aCons (eBor 6) aNil)))))
 (sSeq (sApp 3 (eVar 7))
 (sAsg 4 (eOp pAdd (eBor 4) (eCB (on1 pLen) (aCons (eBor 7) aNil)))))))
 (sNil)))
 (sRetO 3)))
def m_law_splitting : List PV → R (List PV) := mkF 8 [true, false, true] b_law_splitting
def b_law_low : SX :=
 sSeq (sOwn 3 (lOp lCat (eFrz (aCons (eC (.int 0)) (aNil))) (eFrz (lOp lRep (eFrz (aCons (eCB (on1 pLen) (aCons (eBor 1) aNil)) (aNil))) (eCB (on1 pLen) (aCons (eBor 1) aNil))))))
 (sSeq (sFor (bName 4) (lUn iRn1 (eCB (on1 pLen) (aCons (eBor 1) aNil)))
 (sSeq (sIf (eOp pGt (eBor 4) (eC (.int 0)))
 (sPut 3 (eVar 4) (eOp pSub (eOp pIx (eBor 3) (eBor 4)) (eOp pMod (eOp pIx (eBor 2) (eBor 4)) (eC (.int 3)))))
 (sNil))
 (sFor (bName 5) (lUn iSeq (eFrz (lCall m_law_pieces_at (aCons (eBor 0) (aCons (eVar 1) (aCons (eVar 4) (aNil)))))))
 (sPut 3 (eOp pAdd (eBor 4) (eCB (on1 pLen) (aCons (eBor 5) aNil))) (eCB (on2 pMin2) (aCons (eOp pIx (eBor 3) (eOp pAdd (eBor 4) (eCB (on1 pLen) (aCons (eBor 5) aNil)))) (aCons (eOp pAdd (eOp pIx (eBor 3) (eBor 4)) (eC (.int 1))) aNil)))))))
 (sRetO 3))
def m_law_low : List PV → R (List PV) := mkF 6 [true, false, true] b_law_low
def b_law_drawn : SX :=
 sSeq (sOwn 3 (aCons (eVar 1) (aCons (eFrz (lOp lCat (eFrz (aCons (eC (.int 0)) (aNil))) (eFrz (aComp [5] (bName 5) (lUn iSeq (eFrz (lSl (eBor 2) (oSome (eC (.int 1))) (oNo)))) (eC (.bl true)) (eOp pSub (eOp pMod (eBor 5) (eC (.int 12))) (eC (.int 3))))))) (aNil))))
 (sSeq (sApp 3 (eFrz (aComp [4, 5] (bTup2 4 5) (lOp iZip (eBor 0) (eBor 2)) (eC (.bl true)) (eOp pSub (eBor 4) (eOp pMul (eOp pMod (eBor 5) (eC (.int 2))) (eCB (on1 pInt) (aCons (eOp pGt (eBor 4) (eC (.int 0))) aNil)))))))
 (sSeq (sApp 3 (eFrz (aComp [4] (bName 4) (lUn iSeq (eBor 0)) (eC (.bl true)) (eCB (on2 pMin2) (aCons (eBor 4) (aCons (eOp pMod (eOp pIx (eBor 2) (eC (.int 0))) (eC (.int 9))) aNil))))))
 (sRetF (lSl (eOp pIx (eBor 3) (eOp pMod (eOp pIx (eBor 2) (eC (.int 0))) (eC (.int 4)))) (oNo) (oSome (eCB (on1 pLen) (aCons (eBor 0) aNil)))))))
def m_law_drawn : List PV → R (List PV) := mkF 6 [true, false, true] b_law_drawn
def b_law_least : SX :=
 sSeq (sOwn 2 (lOp lCat (eFrz (aCons (eC (.int 0)) (aNil))) (eFrz (lOp lRep (eFrz (aCons (eCB (on1 pLen) (aCons (eBor 1) aNil)) (aNil))) (eCB (on1 pLen) (aCons (eBor 1) aNil))))))
 (sSeq (sFor (bName 3) (lUn iRn1 (eCB (on1 pLen) (aCons (eBor 1) aNil)))
 (sFor (bName 4) (lUn iSeq (eFrz (lCall m_law_pieces_at (aCons (eBor 0) (aCons (eVar 1) (aCons (eVar 3) (aNil)))))))
 (sPut 2 (eOp pAdd (eBor 3) (eCB (on1 pLen) (aCons (eBor 4) aNil))) (eCB (on2 pMin2) (aCons (eOp pIx (eBor 2) (eOp pAdd (eBor 3) (eCB (on1 pLen) (aCons (eBor 4) aNil)))) (aCons (eOp pAdd (eOp pIx (eBor 2) (eBor 3)) (eC (.int 1))) aNil))))))
 (sRetO 2))
def m_law_least : List PV → R (List PV) := mkF 5 [true, false] b_law_least
def b_Table_longest : SX :=
 sRet (eCB (on1 pMaxL) (aCons (eFrz (aComp [1] (bName 1) (lUn iSeq (eAt 0 4 (eVar 0))) (eC (.bl true)) (eCB (on1 pLen) (aCons (eBor 1) aNil)))) aNil))
def m_Table_longest : List PV → R PV := mkP 2 [false] b_Table_longest
def b_begins : SX :=
 sSeq (sOwn 3 (aNil))
 (sSeq (sFor (bName 4) (lOp iRn2 (eCB (on2 pMax2) (aCons (eC (.int 0)) (aCons (eOp pSub (eBor 2) (eMeth 0 m_Table_longest (eVar 0) (aNil))) aNil))) (eVar 2))
 (sIf (eOp pNot2 (eMeth 0 m_Table_which (eVar 0) (aCons (eSlS (eBor 1) (oSome (eVar 4)) (oSome (eVar 2))) (aNil))) (eC .non))
 (sApp 3 (eVar 4))
 (sNil)))
 (sRetO 3))
def m_begins : List PV → R (List PV) := mkF 5 [false, false, false] b_begins
def b_heights : SX :=
 sSeq (sExp (eCall m_look_at_text (aCons (eVar 0) (aCons (eVar 1) (aNil)))))
 (sSeq (sOwn 2 (aCons (eC (.int 0)) (aNil)))
 (sSeq (sFor (bName 3) (lOp iRn2 (eC (.int 1)) (eOp pAdd (eCB (on1 pLen) (aCons (eBor 1) aNil)) (eC (.int 1))))
 (sApp 2 (eOp pAdd (eC (.int 1)) (eCB (on1 pMinL) (aCons (eFrz (aComp [4] (bName 4) (lUn iSeq (eFrz (lCall m_begins (aCons (eVar 0) (aCons (eVar 1) (aCons (eVar 3) (aNil))))))) (eC (.bl true)) (eOp pIx (eBor 2) (eBor 4)))) aNil)))))
 (sRetO 2)))
def m_heights : List PV → R (List PV) := mkF 5 [false, false] b_heights
noncomputable def b_fewest : SX :=
 sSeq (sAsg 2 (eFrz (lCall m_heights (aCons (eVar 0) (aCons (eVar 1) (aNil))))))
 (sSeq (sOwn 3 (aNil))
 (sSeq (sAsg 4 (eCB (on1 pLen) (aCons (eBor 1) aNil)))
 (sSeq (sWh (eOp pGt (eBor 4) (eC (.int 0)))
 (sFor (bName 5) (lUn iSeq (eFrz (lCall m_begins (aCons (eVar 0) (aCons (eVar 1) (aCons (eVar 4) (aNil)))))))
 (sIf (eOp pEq (eOp pIx (eBor 2) (eBor 5)) (eOp pSub (eOp pIx (eBor 2) (eBor 4)) (eC (.int 1))))
 (sSeq (sApp 3 (eSlS (eBor 1) (oSome (eVar 5)) (oSome (eVar 4))))
 (sSeq (sAsg 4 (eVar 5))
 (sBrk)))
 (sNil))))
 (sRetF (lUn lRev (eBor 3))))))
noncomputable def m_fewest : List PV → R (List PV) := mkF 6 [false, false] b_fewest
def b_is_splitting : SX :=
 sSeq (sExp (eCall m_look_at_text (aCons (eVar 0) (aCons (eVar 1) (aNil)))))
 (sSeq (sIf (eNot (eUn (pIsi "list") (eBor 2)))
 (sRet (eC (.bl false)))
 (sNil))
 (sSeq (sFor (bName 3) (lUn iSeq (eQ 2))
 (sIf (eOp pIs2 (eMeth 0 m_Table_which (eVar 0) (aCons (eVar 3) (aNil))) (eC .non))
 (sRet (eC (.bl false)))
 (sNil)))
 (sRet (eOp pEq (eM1 pJoin (eC (.str [])) (eBor 2)) (eBor 1)))))
def m_is_splitting : List PV → R PV := mkP 4 [false, false, true] b_is_splitting
def b_lets_heights : SX :=
 sSeq (sExp (eCall m_look_at_text (aCons (eVar 0) (aCons (eVar 1) (aNil)))))
 (sSeq (sIf (eOr (eNot (eUn (pIsi "list") (eBor 2))) (eOp pNe (eCB (on1 pLen) (aCons (eBor 2) aNil)) (eOp pAdd (eCB (on1 pLen) (aCons (eBor 1) aNil)) (eC (.int 1)))))
 (sRet (eC (.bl false)))
 (sNil))
 (sSeq (sFor (bName 3) (lUn iSeq (eQ 2))
 (sIf (eNot (eCall m_is_whole (aCons (eBor 3) (aNil))))
 (sRet (eC (.bl false)))
 (sNil)))
 (sSeq (sIf (eOp pNe (eOp pIx (eBor 2) (eC (.int 0))) (eC (.int 0)))
 (sRet (eC (.bl false)))
 (sNil))
 (sSeq (sFor (bName 4) (lOp iRn2 (eC (.int 1)) (eOp pAdd (eCB (on1 pLen) (aCons (eBor 1) aNil)) (eC (.int 1))))
 (sFor (bName 5) (lUn iSeq (eFrz (lCall m_begins (aCons (eVar 0) (aCons (eVar 1) (aCons (eVar 4) (aNil)))))))
 (sIf (eOp pGt (eOp pIx (eBor 2) (eBor 4)) (eOp pAdd (eOp pIx (eBor 2) (eBor 5)) (eC (.int 1))))
 (sRet (eC (.bl false)))
 (sNil))))
 (sRet (eC (.bl true)))))))
def m_lets_heights : List PV → R PV := mkP 6 [false, false, true] b_lets_heights
def b_law_climbs : SX :=
 sSeq (sAsg 2 (eC (.int 0)))
 (sSeq (sFor (bName 3) (lUn iSeq (eQ 0))
 (sSeq (sIf (eOp pGt (eOp pIx (eBor 1) (eOp pAdd (eBor 2) (eCB (on1 pLen) (aCons (eBor 3) aNil)))) (eOp pAdd (eOp pIx (eBor 1) (eBor 2)) (eC (.int 1))))
 (sRet (eC (.bl false)))
 (sNil))
 (sAsg 2 (eOp pAdd (eBor 2) (eCB (on1 pLen) (aCons (eBor 3) aNil))))))
 (sRet (eAnd (eOp pEq (eBor 2) (eOp pSub (eCB (on1 pLen) (aCons (eBor 1) aNil)) (eC (.int 1)))) (eOp pGe (eCB (on1 pLen) (aCons (eBor 0) aNil)) (eOp pIx (eBor 1) (eUn pNeg (eC (.int 1))))))))
def m_law_climbs : List PV → R PV := mkP 4 [true, true] b_law_climbs
def b_law_number : SX :=
 sSeq (sIf (eNot (eUn (pIsi "str") (eBor 1)))
 (sRet (eC .non))
 (sNil))
 (sSeq (sFor (bName 2) (lUn iRn1 (eCB (on1 pLen) (aCons (eBor 0) aNil)))
 (sIf (eOp pEq (eOp pIx (eBor 0) (eBor 2)) (eBor 1))
 (sRet (eVar 2))
 (sNil)))
 (sRet (eC .non)))
def m_law_number : List PV → R PV := mkP 3 [true, true] b_law_number
def b_law_same : SX :=
 sSeq (sIf (eOp pIs2 (eBor 1) (eC .non))
 (sRet (eOp pIs2 (eBor 0) (eC .non)))
 (sNil))
 (sRet (eAnd (eUn (pIsi "int") (eBor 0)) (eAnd (eNot (eUn (pIsi "bool") (eBor 0))) (eOp pEq (eBor 0) (eBor 1)))))
def m_law_same : List PV → R PV := mkP 2 [true, true] b_law_same
def b_Table_piece : SX :=
 sSeq (sIf (eOr (eNot (eCall m_is_whole (aCons (eBor 1) (aNil)))) (eNot (eChain pLe pLt (eC (.int 0)) (eBor 1) (eCB (on1 pLen) (aCons (eAt 0 4 (eVar 0)) aNil)))))
 (sRaise "NoNumber" ["place"] (aCons (eC .non) (aNil)))
 (sNil))
 (sRet (eOp pIx (eAt 0 4 (eVar 0)) (eBor 1)))
def m_Table_piece : List PV → R PV := mkP 2 [false, false] b_Table_piece
def b_law_parts : SX :=
 sSeq (sAsg 2 (eTup (aCons (eC (.str [110, 111])) (aCons (eC (.int 0)) (aNil)))))
 (sSeq (sTry 3 (sAsg 2 (eTup (aCons (eC (.str [112, 97, 114, 116, 115])) (aCons (eMeth 0 m_Table_parts (eVar 0) (aCons (eVar 1) (aNil))) (aNil))))) "NoPiece" (sAsg 2 (eTup (aCons (eC (.str [110, 111])) (aCons (eFld 3 "NoPiece" "place") (aNil))))))
 (sRet (eVar 2)))
def m_law_parts : List PV → R PV := mkP 4 [false, false] b_law_parts
def b_law_piece : SX :=
 sSeq (sAsg 2 (eTup (aCons (eC (.str [110, 111])) (aCons (eC (.int 0)) (aNil)))))
 (sSeq (sTry 3 (sAsg 2 (eTup (aCons (eC (.str [112, 105, 101, 99, 101])) (aCons (eMeth 0 m_Table_piece (eVar 0) (aCons (eVar 1) (aNil))) (aNil))))) "NoNumber" (sAsg 2 (eTup (aCons (eC (.str [110, 111])) (aCons (eFld 3 "NoNumber" "place") (aNil))))))
 (sRet (eVar 2)))
def m_law_piece : List PV → R PV := mkP 4 [false, false] b_law_piece
def b_law_right : SX :=
 sSeq (sAsg 5 (eCall m_law_number (aCons (eBor 3) (aCons (eBor 4) (aNil)))))
 (sSeq (sIf (eNot (eCall m_law_same (aCons (eMeth 0 m_Table_which (eVar 0) (aCons (eVar 4) (aNil))) (aCons (eBor 5) (aNil)))))
 (sRet (eC (.bl false)))
 (sNil))
 (sSeq (sAsg 6 (eTup (aCons (eC (.str [110, 111])) (aCons (eC .non) (aNil)))))
 (sSeq (sIf (eAnd (eUn (pIsi "int") (eBor 4)) (eAnd (eNot (eUn (pIsi "bool") (eBor 4))) (eChain pLe pLt (eC (.int 0)) (eBor 4) (eCB (on1 pLen) (aCons (eBor 3) aNil)))))
 (sAsg 6 (eTup (aCons (eC (.str [112, 105, 101, 99, 101])) (aCons (eOp pIx (eBor 3) (eBor 4)) (aNil)))))
 (sNil))
 (sSeq (sIf (eOp pNe (eCall m_law_piece (aCons (eVar 0) (aCons (eVar 4) (aNil)))) (eBor 6))
 (sRet (eC (.bl false)))
 (sNil))
 (sSeq (sAsg 6 (eTup (aCons (eC (.str [110, 111])) (aCons (eC .non) (aNil)))))
 (sSeq (sIf (eAnd (eOp pNot2 (eBor 5) (eC .non)) (eOp pLt (eBor 5) (eCB (on1 pLen) (aCons (eBor 1) aNil))))
 (sAsg 6 (eTup (aCons (eC (.str [112, 97, 114, 116, 115])) (aCons (eC .non) (aNil)))))
 (sNil))
 (sSeq (sIf (eAnd (eOp pNot2 (eBor 5) (eC .non)) (eOp pGe (eBor 5) (eCB (on1 pLen) (aCons (eBor 1) aNil))))
 (sAsg 6 (eTup (aCons (eC (.str [112, 97, 114, 116, 115])) (aCons (eOp pIx (eBor 2) (eOp pSub (eBor 5) (eCB (on1 pLen) (aCons (eBor 1) aNil)))) (aNil)))))
 (sNil))
 (sRet (eOp pEq (eCall m_law_parts (aCons (eVar 0) (aCons (eVar 4) (aNil)))) (eBor 6))))))))))
def m_law_right : List PV → R PV := mkP 7 [false, false, true, true, false] b_law_right
def b_law_rank : SX :=
 sSeq (sIf (eOr (eNot (eUn (pIsi "str") (eBor 1))) (eNot (eUn (pIsi "str") (eBor 2))))
 (sRet (eC .non))
 (sNil))
 (sSeq (sFor (bName 3) (lUn iRn1 (eCB (on1 pLen) (aCons (eBor 0) aNil)))
 (sIf (eOp pEq (eOp pIx (eBor 0) (eBor 3)) (eTup (aCons (eVar 1) (aCons (eVar 2) (aNil)))))
 (sRet (eVar 3))
 (sNil)))
 (sRet (eC .non)))
def m_law_rank : List PV → R PV := mkP 4 [true, false, false] b_law_rank
def b_Table_rank : SX :=
 sSeq (sIf (eOr (eNot (eUn (pIsi "str") (eBor 1))) (eNot (eUn (pIsi "str") (eBor 2))))
 (sRet (eC .non))
 (sNil))
 (sRet (eGet1 (eAt 0 2 (eVar 0)) (eTup (aCons (eVar 1) (aCons (eVar 2) (aNil))))))
def m_Table_rank : List PV → R PV := mkP 3 [false, false, false] b_Table_rank
def b_law_passed : SX :=
 sSeq (sOwn 3 (aNil))
 (sSeq (sFor (bName 4) (lUn iSeq (eQ 0))
 (sIf (eAnd (eOp pEq (eBor 4) (eBor 2)) (eAnd (eOp pNe (eBor 3) (eFrz (aNil))) (eOp pEq (eOp pIx (eBor 3) (eUn pNeg (eC (.int 1)))) (eBor 1))))
 (sPut 3 (eUn pNeg (eC (.int 1))) (eOp pAdd (eBor 1) (eBor 2)))
 (sApp 3 (eVar 4))))
 (sRetO 3))
def m_law_passed : List PV → R (List PV) := mkF 5 [true, false, false] b_law_passed
def b_law_cut_2 : SX :=
 sSeq (sOwn 2 (lCB (on1 lOf) (aCons (eBor 1) aNil)))
 (sSeq (sFor (bTup2 3 4) (lUn iSeq (eQ 0))
 (sOwn 2 (lCall m_law_passed (aCons (eBor 2) (aCons (eVar 3) (aCons (eVar 4) (aNil)))))))
 (sRetO 2))
def m_law_cut_2 : List PV → R (List PV) := mkF 5 [true, false] b_law_cut_2
def b_law_drawn_2 : SX :=
 sSeq (sAsg 3 (eC (.int 10)))
 (sSeq (sAsg 4 (eVar 0))
 (sSeq (sFor (bName 5) (lUn iRn1 (eVar 2))
 (sAsg 3 (eOp pMul (eBor 3) (eC (.int 10)))))
 (sSeq (sFor (bName 5) (lUn iRn1 (eVar 1))
 (sAsg 4 (eOp pMod (eOp pMul (eBor 4) (eOp pAdd (eBor 0) (eBor 5))) (eOp pPow (eC (.int 10)) (eC (.int 60))))))
 (sRet (eOp pMod (eBor 4) (eBor 3))))))
def m_law_drawn_2 : List PV → R PV := mkP 6 [false, false, false] b_law_drawn_2
def b_show_number : SX :=
 sRet (eCB (on1 pStr) (aCons (eBor 0) aNil))
def m_show_number : List PV → R PV := mkP 1 [false] b_show_number
def b_show_numbers : SX :=
 sRet (eM1 pJoin (eC (.str [32])) (eFrz (aComp [1] (bName 1) (lUn iSeq (eBor 0)) (eC (.bl true)) (eCall m_show_number (aCons (eVar 1) (aNil))))))
def m_show_numbers : List PV → R PV := mkP 2 [true] b_show_numbers
def b_law_number_2 : SX :=
 sSeq (sIf (eOr (eOp pEq (eBor 0) (eC (.str []))) (eOr (eOp pGt (eCB (on1 pLen) (aCons (eBor 0) aNil)) (eC (.int 60))) (eAnd (eOp pEq (eOp pIx (eBor 0) (eC (.int 0))) (eC (.str [48]))) (eOp pGt (eCB (on1 pLen) (aCons (eBor 0) aNil)) (eC (.int 1))))))
 (sRet (eC .non))
 (sNil))
 (sSeq (sAsg 1 (eC (.int 0)))
 (sSeq (sFor (bName 2) (lUn iTxt (eBor 0))
 (sSeq (sIf (eOp pNinS (eBor 2) (eC (.str [48, 49, 50, 51, 52, 53, 54, 55, 56, 57])))
 (sRet (eC .non))
 (sNil))
 (sAsg 1 (eOp pAdd (eOp pMul (eBor 1) (eC (.int 10))) (eUn pIdx10 (eBor 2))))))
 (sRet (eVar 1))))
def m_law_number_2 : List PV → R PV := mkP 3 [false] b_law_number_2
def b_law_due : SX :=
 sSeq (sIf (eNot (eUn (pIsi "str") (eBor 0)))
 (sRet (eC .non))
 (sNil))
 (sSeq (sIf (eOp pEq (eBor 0) (eC (.str [])))
 (sRet (eFrz (aNil)))
 (sNil))
 (sSeq (sOwn 1 (aComp [2] (bName 2) (lUn iSeq (eFrz (lM1 lSplit (eBor 0) (eC (.str [32]))))) (eC (.bl true)) (eCall m_law_number_2 (aCons (eVar 2) (aNil)))))
 (sSeq (sIf (eOp pInL (eC .non) (eBor 1))
 (sRet (eC .non))
 (sNil))
 (sFrz 1 (sRet (eVar 1))))))
def m_law_due : List PV → R PV := mkP 3 [false] b_law_due
def b_writes_number : SX :=
 sSeq (sFor (bName 1) (lUn iTxt (eBor 0))
 (sIf (eOp pNinS (eBor 1) (eC (.str [48, 49, 50, 51, 52, 53, 54, 55, 56, 57])))
 (sRet (eC (.bl false)))
 (sNil)))
 (sRet (eAnd (eOp pNe (eBor 0) (eC (.str []))) (eOr (eOp pNe (eOp pIx (eBor 0) (eC (.int 0))) (eC (.str [48]))) (eOp pEq (eBor 0) (eC (.str [48]))))))
def m_writes_number : List PV → R PV := mkP 2 [false] b_writes_number
def b_read_number : SX :=
 sSeq (sIf (eOr (eNot (eUn (pIsi "str") (eBor 0))) (eOr (eOp pGt (eCB (on1 pLen) (aCons (eBor 0) aNil)) (eC (.int 60))) (eNot (eCall m_writes_number (aCons (eVar 0) (aNil))))))
 (sRaise "NoText" ["row"] (aCons (eC (.int 0)) (aNil)))
 (sNil))
 (sRet (eCB (on1 pInt) (aCons (eBor 0) aNil)))
def m_read_number : List PV → R PV := mkP 1 [false] b_read_number
noncomputable def b_passed : SX :=
 sSeq (sExp (eCall m_look_at_row (aCons (eVar 0) (aCons (eBor 1) (aNil)))))
 (sSeq (sAsg 3 (eFrz (lMeth 0 m_Table_rows (eVar 0) (aNil))))
 (sSeq (sIf (eOr (eNot (eCall m_is_whole (aCons (eBor 2) (aNil)))) (eNot (eChain pLe pLt (eC (.int 0)) (eBor 2) (eCB (on1 pLen) (aCons (eBor 3) aNil)))))
 (sRaise "NoPlace" [] (aNil))
 (sNil))
 (sRetF (lCall m_joined_row (aCons (eBor 1) (aCons (eOp pIx (eOp pIx (eBor 3) (eBor 2)) (eC (.int 0))) (aCons (eOp pIx (eOp pIx (eBor 3) (eBor 2)) (eC (.int 1))) (aNil))))))))
noncomputable def m_passed : List PV → R (List PV) := mkF 4 [false, true, false] b_passed
noncomputable def b_rows_on_the_way : SX :=
 sSeq (sOwn 2 (aCons (eFrz (lCall m_signs_of (aCons (eVar 0) (aCons (eVar 1) (aNil))))) (aNil)))
 (sSeq (sFor (bTup2 3 4) (lUn iSeq (eFrz (lMeth 0 m_Table_rows (eVar 0) (aNil))))
 (sApp 2 (eFrz (lCall m_joined_row (aCons (eOp pIx (eBor 2) (eUn pNeg (eC (.int 1)))) (aCons (eVar 3) (aCons (eVar 4) (aNil))))))))
 (sRetO 2))
noncomputable def m_rows_on_the_way : List PV → R (List PV) := mkF 5 [false, false] b_rows_on_the_way
def b_show_table : SX :=
 sSeq (sOwn 1 (aCons (eOp pAdd (eC (.str [115, 105, 103, 110, 115, 32])) (eMeth 0 m_Table_signs (eVar 0) (aNil))) (aNil)))
 (sSeq (sFor (bTup2 2 3) (lUn iSeq (eFrz (lMeth 0 m_Table_rows (eVar 0) (aNil))))
 (sApp 1 (eCall m_show_numbers (aCons (eFrz (aCons (eMeth 0 m_Table_which (eVar 0) (aCons (eVar 2) (aNil))) (aCons (eMeth 0 m_Table_which (eVar 0) (aCons (eVar 3) (aNil))) (aNil)))) (aNil)))))
 (sRet (eM1 pJoin (eC (.str [10])) (eBor 1))))
def m_show_table : List PV → R PV := mkP 4 [false] b_show_table
def b_table_or_none_2 : SX :=
 sSeq (sTryE (sAsg 2 (eMake 0 m_Table___init__ (aCons (eVar 0) (aCons (eBor 1) (aNil))))) [("NoTable", none, sAsg 2 (eC .non))])
 (sRet (eVar 2))
def m_table_or_none_2 : List PV → R PV := mkP 3 [false, true] b_table_or_none_2
def b_read_numbers : SX :=
 sSeq (sIf (eNot (eUn (pIsi "str") (eBor 0)))
 (sRaise "NoText" ["row"] (aCons (eC (.int 0)) (aNil)))
 (sNil))
 (sSeq (sIf (eOp pEq (eBor 0) (eC (.str [])))
 (sRetF (aNil))
 (sNil))
 (sRetF (aCompX [1] (bName 1) (lUn iSeq (eFrz (lM1 lSplit (eBor 0) (eC (.str [32]))))) (eC (.bl true)) (eCall m_read_number (aCons (eVar 1) (aNil))))))
def m_read_numbers : List PV → R (List PV) := mkF 2 [false] b_read_numbers
def b_numbers_or_none : SX :=
 sSeq (sTryE (sAsg 1 (eFrz (lCall m_read_numbers (aCons (eVar 0) (aNil))))) [("NoText", none, sAsg 1 (eC .non))])
 (sRet (eVar 1))
def m_numbers_or_none : List PV → R PV := mkP 2 [false] b_numbers_or_none
def b_longer_table : SX :=
 sSeq (sAsg 2 (eCall m_numbers_or_none (aCons (eVar 1) (aNil))))
 (sSeq (sAsg 3 (eFrz (lMeth 0 m_Table_pieces (eVar 0) (aNil))))
 (sSeq (sIf (eOr (eOp pIs2 (eBor 2) (eC .non)) (eOr (eOp pNe (eCB (on1 pLen) (aCons (eBor 2) aNil)) (eC (.int 2))) (eOp pGe (eCB (on1 pMaxL) (aCons (eBor 2) aNil)) (eCB (on1 pLen) (aCons (eBor 3) aNil)))))
 (sRet (eC .non))
 (sNil))
 (sRet (eCall m_table_or_none_2 (aCons (eMeth 0 m_Table_signs (eVar 0) (aNil)) (aCons (eFrz (lOp lCat (eFrz (lMeth 0 m_Table_rows (eVar 0) (aNil))) (eFrz (aCons (eTup (aCons (eOp pIx (eBor 3) (eOp pIx (eBor 2) (eC (.int 0)))) (aCons (eOp pIx (eBor 3) (eOp pIx (eBor 2) (eC (.int 1)))) (aNil)))) (aNil))))) (aNil)))))))
def m_longer_table : List PV → R PV := mkP 4 [false, false] b_longer_table
def b_read_table : SX :=
 sSeq (sIf (eNot (eUn (pIsi "str") (eBor 0)))
 (sRaise "NoText" ["row"] (aCons (eC (.int 0)) (aNil)))
 (sNil))
 (sSeq (sAsg 1 (eFrz (lM1 lSplit (eBor 0) (eC (.str [10])))))
 (sSeq (sAsg 2 (eC .non))
 (sSeq (sIf (eM1 pStarts (eOp pIx (eBor 1) (eC (.int 0))) (eC (.str [115, 105, 103, 110, 115, 32])))
 (sAsg 2 (eCall m_table_or_none_2 (aCons (eSlS (eOp pIx (eBor 1) (eC (.int 0))) (oSome (eC (.int 6))) (oNo)) (aCons (eFrz (aNil)) (aNil)))))
 (sNil))
 (sSeq (sIf (eOp pIs2 (eBor 2) (eC .non))
 (sRaise "NoText" ["row"] (aCons (eC (.int 0)) (aNil)))
 (sNil))
 (sSeq (sFor (bName 3) (lOp iRn2 (eC (.int 1)) (eCB (on1 pLen) (aCons (eBor 1) aNil)))
 (sSeq (sAsg 2 (eCall m_longer_table (aCons (eVar 2) (aCons (eOp pIx (eBor 1) (eBor 3)) (aNil)))))
 (sIf (eOp pIs2 (eBor 2) (eC .non))
 (sRaise "NoText" ["row"] (aCons (eVar 3) (aNil)))
 (sNil))))
 (sRet (eVar 2)))))))
def m_read_table : List PV → R PV := mkP 4 [false] b_read_table
def b_law_read : SX :=
 sSeq (sAsg 1 (eTup (aCons (eC (.str [110, 111])) (aCons (eC (.int 0)) (aNil)))))
 (sSeq (sTryE (sAsg 1 (eTup (aCons (eC (.str [114, 101, 97, 100])) (aCons (eFrz (lCall m_read_numbers (aCons (eVar 0) (aNil)))) (aNil))))) [("NoText", some 2, sAsg 1 (eTup (aCons (eC (.str [110, 111])) (aCons (eErF "row" (eVar 2)) (aNil)))))])
 (sRet (eVar 1)))
def m_law_read : List PV → R PV := mkP 3 [false] b_law_read
def b_law_right_2 : SX :=
 sSeq (sAsg 1 (eCall m_law_due (aCons (eVar 0) (aNil))))
 (sSeq (sUnp (bTup2 3 4) (eCall m_law_read (aCons (eVar 0) (aNil))))
 (sSeq (sIf (eOp pIs2 (eBor 1) (eC .non))
 (sRet (eAnd (eOp pEq (eBor 3) (eC (.str [110, 111]))) (eAnd (eUn (pIsi "int") (eBor 4)) (eAnd (eNot (eUn (pIsi "bool") (eBor 4))) (eOp pEq (eBor 4) (eC (.int 0)))))))
 (sNil))
 (sSeq (sIf (eOr (eOp pNe (eBor 3) (eC (.str [114, 101, 97, 100]))) (eNot (eUn (pIsi "list") (eBor 4))))
 (sRet (eC (.bl false)))
 (sNil))
 (sSeq (sFor (bName 2) (lUn iAny (eQ 4))
 (sIf (eOr (eNot (eUn (pIsi "int") (eBor 2))) (eUn (pIsi "bool") (eBor 2)))
 (sRet (eC (.bl false)))
 (sNil)))
 (sRet (eOp pEq (eBor 4) (eBor 1)))))))
def m_law_right_2 : List PV → R PV := mkP 5 [false] b_law_right_2
def b_law_k85 : SX :=
 sSeq (sAsg 1 (eC (.str [48, 49, 50, 51, 52, 53, 54, 55, 56, 57, 32, 10, 9, 45, 43, 95, 46, 44, 97, 98, 99, 120, 121, 122, 65, 66, 67, 88, 89, 90, 33, 34, 35, 36, 38, 39, 40, 41, 42, 47, 58, 59, 60, 61, 62, 63, 64, 91, 92, 93, 94, 96, 123, 124, 125, 126])))
 (sSeq (sFor (bTup2 2 3) (lUn iEnL (eFrz (lOp lCat (eFrz (aCons (eC (.int 0)) (aNil))) (eFrz (lSl (eBor 0) (oNo) (oSome (eC (.int 39))))))))
 (sSeq (sAsg 4 (eFrz (lCall m_law_numbers (aCons (eVar 3) (aCons (eOp pAdd (eC (.int 8500)) (eBor 2)) (aCons (eFrz (lOp lCat (eFrz (aCons (eC (.int 5)) (aCons (eC (.int 250)) (aCons (eC (.int 61)) (aCons (eC (.int 3)) (aCons (eC (.int 10)) (aNil))))))) (eFrz (lOp lRep (eFrz (aCons (eOp pPow (eC (.int 10)) (eC (.int 60))) (aCons (eC (.int 7)) (aCons (eC (.int 60)) (aNil))))) (eC (.int 4)))))) (aNil)))))))
 (sSeq (sOwn 5 (aNil))
 (sSeq (sFor (bName 6) (lUn iRn1 (eOp pIx (eBor 4) (eC (.int 0))))
 (sApp 5 (eCall m_law_drawn_2 (aCons (eOp pIx (eBor 4) (eOp pAdd (eC (.int 5)) (eOp pMul (eC (.int 3)) (eBor 6)))) (aCons (eOp pIx (eBor 4) (eOp pAdd (eC (.int 6)) (eOp pMul (eC (.int 3)) (eBor 6)))) (aCons (eOp pIx (eBor 4) (eOp pAdd (eC (.int 7)) (eOp pMul (eC (.int 3)) (eBor 6)))) (aNil)))))))
 (sSeq (sAsg 7 (eFrz (lCB (on1 lOf) (aCons (eBor 5) aNil))))
 (sSeq (sAsg 8 (eCall m_show_numbers (aCons (eBor 7) (aNil))))
 (sSeq (sIf (eOr (eOp pNe (eBor 7) (eBor 5)) (eOr (eNot (eUn (pIsi "str") (eBor 8))) (eOp pNe (eBor 8) (eM1 pJoin (eC (.str [32])) (eFrz (aComp [15] (bName 15) (lUn iSeq (eBor 5)) (eC (.bl true)) (eCB (on1 pStr) (aCons (eBor 15) aNil))))))))
 (sRet (eC (.bl false)))
 (sNil))
 (sSeq (sAsg 9 (eOp pMod (eOp pIx (eBor 4) (eC (.int 1))) (eOp pAdd (eCB (on1 pLen) (aCons (eBor 8) aNil)) (eC (.int 1)))))
 (sSeq (sAsg 10 (eOp pIx (eBor 1) (eOp pMod (eOp pIx (eBor 4) (eC (.int 2))) (eCB (on1 pLen) (aCons (eBor 1) aNil)))))
 (sSeq (sAsg 11 (eFrz (aCons (eOp pAdd (eOp pAdd (eSlS (eBor 8) (oNo) (oSome (eVar 9))) (eBor 10)) (eSlS (eBor 8) (oSome (eVar 9)) (oNo))) (aCons (eOp pAdd (eSlS (eBor 8) (oNo) (oSome (eVar 9))) (eSlS (eBor 8) (oSome (eOp pAdd (eBor 9) (eC (.int 1)))) (oNo))) (aCons (eOp pAdd (eOp pAdd (eSlS (eBor 8) (oNo) (oSome (eVar 9))) (eBor 10)) (eSlS (eBor 8) (oSome (eOp pAdd (eBor 9) (eC (.int 1)))) (oNo))) (aNil))))))
 (sSeq (sAsg 12 (eOp pIx (eFrz (aCons (eC .non) (aCons (eC (.bl true)) (aCons (eC (.int 0)) (aCons (eFrz (aCons (eVar 8) (aNil))) (aCons (eTup (aCons (eVar 8) (aNil))) (aCons (eC (.dct false [])) (aCons (eFrz (aNil)) (aCons (eC (.str [32])) (aCons (eC (.str [48, 32])) (aCons (eOp pMulS (eC (.str [48])) (eC (.int 61))) (aNil)))))))))))) (eOp pIx (eBor 4) (eC (.int 4)))))
 (sSeq (sFor (bName 13) (lUn iSeq (eFrz (aCons (eVar 8) (aCons (eOp pIx (eBor 11) (eOp pIx (eBor 4) (eC (.int 3)))) (aCons (eOp pAdd (eBor 8) (eC (.str [32]))) (aCons (eOp pAdd (eBor 8) (eC (.str [10]))) (aCons (eVar 12) (aCons (eOp pAdd (eC (.str [32])) (eBor 8)) (aCons (eVar 8) (aNil))))))))))
 (sIf (eNot (eCall m_law_right_2 (aCons (eVar 13) (aNil))))
 (sRet (eC (.bl false)))
 (sNil)))
 (sSeq (sOwn 14 (lCall m_read_numbers (aCons (eVar 8) (aNil))))
 (sSeq (sApp 14 (eC (.int 0)))
 (sSeq (sMut 14 List.reverse)
 (sIf (eOp pNe (eFrz (lCall m_read_numbers (aCons (eVar 8) (aNil)))) (eBor 5))
 (sRet (eC (.bl false)))
 (sNil)))))))))))))))))
 (sRet (eC (.bl true))))
def m_law_k85 : List PV → R PV := mkP 16 [false] b_law_k85
end LK

set_option linter.all false
set_option maxRecDepth 100000
namespace LK
open JP
def isI : PV → Bool
  | .int _ => true
  | _ => false
theorem str_at {s : List Nat} {k : Nat} {p : PV} (h : (s.map fun c => PV.str [c])[k]? = some p) : ∃ c, s[k]? = some c ∧ p = .str [c] := by
  simp only [List.getElem?_map] at h
  cases e : s[k]? with
  | none => rw [e] at h; cases h
  | some c => rw [e] at h; exact ⟨c, rfl, by simpa using h.symm⟩
def nmBody : SX := (sIf (eAnd (eOp pGe (eBor 3) (eOp pPow (eC (.int 10)) (eC (.int 18)))) (eOp pGt (eBor 4) (eC (.int 0))))
 (sSeq (sApp 5 (eOp pMod (eBor 4) (eOp pIx (eBor 2) (eBor 6))))
 (sAsg 4 (eOp pDiv (eBor 4) (eOp pIx (eBor 2) (eBor 6)))))
 (sSeq (sAsg 7 (eOp pMod (eOp pPow (eOp pAdd (eOp pAdd (eOp pMod (eBor 3) (eC (.int 2147483629))) (eOp pMul (eC (.int 7919)) (eBor 1))) (eC (.int 1))) (eC (.int 3))) (eC (.int 2147483647))))
 (sSeq (sAsg 7 (eOp pMod (eOp pMul (eOp pAdd (eBor 7) (eOp pMul (eC (.int 104729)) (eOp pAdd (eBor 6) (eC (.int 1))))) (eOp pAdd (eBor 6) (eC (.int 3)))) (eC (.int 2147483629))))
 (sSeq (sAsg 7 (eOp pMod (eOp pMul (eOp pMod (eOp pPow (eBor 7) (eC (.int 5))) (eC (.int 2147483647))) (eC (.int 48271))) (eC (.int 2147483629))))
 (sApp 5 (eOp pMod (eOp pDiv (eBor 7) (eC (.int 16))) (eOp pIx (eBor 2) (eBor 6))))))))
theorem wide16 : wideI 16 = true := wideI_of (by decide)
theorem numbers_step (c salt number left : Int) (sizes : List Int) (found : List PV) (k : Nat) (z : Int) (x7 : Sl) (hk : sizes[k]? = some z) (hz : 0 < z) (hzw : wideI z = true) (hs : 0 ≤ salt ∧ salt ≤ 1000000) (hkk : k < 1000000) (hl : 0 ≤ left) (hf : found.length < 1000000) :
    ∃ d left' x7', 0 ≤ d ∧ d < z ∧ 0 ≤ left' ∧ nmBody [.v (.int c), .v (.int salt), .b (.lst (sizes.map .int)), .v (.int number), .v (.int left), .o found, .v (.int (k : Int)), x7] = .nx [.v (.int c), .v (.int salt), .b (.lst (sizes.map .int)), .v (.int number), .v (.int left'), .o (found ++ [.int d]), .v (.int (k : Int)), x7'] := by
  have ix : pIx (.lst (sizes.map .int)) (.int (k : Int)) = some (.int z) := by
    simp -implicitDefEqProofs only [pIx, atN_ints, hk, Option.map_some]
  have sm10 : smallI 10 = true := by decide
  have e18 : pPow (.int 10) (.int 18) = some (.int (10 ^ 18)) := by simp [sm10]
  by_cases hc : (10 ^ 18 ≤ number) ∧ 0 < left
  · refine ⟨left % z, left / z, x7, Int.emod_nonneg _ (by omega), Int.emod_lt_of_pos _ hz, Int.ediv_nonneg hl (by omega), ?_⟩
    unfold nmBody
    have ct : (decide (10 ^ 18 ≤ number) && decide (0 < left)) = true := by simp -implicitDefEqProofs only [hc, decide_true, Bool.and_self]
    have qd : pDiv (.int left) (.int z) = some (.int (left / z)) := by simp [hz, hzw]
    simp -implicitDefEqProofs only [sIf_app, eAnd_app, eOp_app, eBor_app, eC_app, List.getElem?_cons_succ, List.getElem?_cons_zero, R.bind_ok, e18, ofO_some, pGe, pGt, thenO_ok, andK_b, ct, ifS_t, qd, sSeq_app, sApp_app, sAsg_app, ix, pMod_s hz, List.set_cons_succ, List.set_cons_zero, hf, if_pos, seqO_nx]
  · let b1 := number % 2147483629 + 7919 * salt + 1
    have hb1 : smallI b1 = true := by
      apply smallI_of
      have h1 := Int.emod_nonneg number (b := 2147483629) (by omega)
      have h2 := Int.emod_lt_of_pos number (b := 2147483629) (by omega)
      show -(2 ^ 64) < number % 2147483629 + 7919 * salt + 1 ∧ number % 2147483629 + 7919 * salt + 1 < 2 ^ 64
      omega
    let o1 := b1 ^ 3 % 2147483647
    have ho1 : 0 ≤ o1 ∧ o1 < 2147483647 := ⟨Int.emod_nonneg _ (by omega), Int.emod_lt_of_pos _ (by omega)⟩
    let m1 := o1 + 104729 * ((k : Int) + 1)
    have hm1 : smallI m1 = true := by
      apply smallI_of
      show -(2 ^ 64) < o1 + 104729 * ((k : Int) + 1) ∧ o1 + 104729 * ((k : Int) + 1) < 2 ^ 64
      omega
    let o2 := m1 * ((k : Int) + 3) % 2147483629
    have ho2 : 0 ≤ o2 ∧ o2 < 2147483629 := ⟨Int.emod_nonneg _ (by omega), Int.emod_lt_of_pos _ (by omega)⟩
    have hs2 : smallI o2 = true := smallI_of (by omega)
    let o3 := o2 ^ 5 % 2147483647
    have ho3 : 0 ≤ o3 ∧ o3 < 2147483647 := ⟨Int.emod_nonneg _ (by omega), Int.emod_lt_of_pos _ (by omega)⟩
    have hs3 : smallI o3 = true := smallI_of (by omega)
    let o4 := o3 * 48271 % 2147483629
    have s7919 : smallI 7919 = true := by decide
    have s104729 : smallI 104729 = true := by decide
    refine ⟨o4 / 16 % z, left, .v (.int o4), Int.emod_nonneg _ (by omega), Int.emod_lt_of_pos _ hz, hl, ?_⟩
    have cf : (decide (10 ^ 18 ≤ number) && decide (0 < left)) = false := by
      simp -implicitDefEqProofs only [Bool.and_eq_false_iff, decide_eq_false_iff_not]
      by_cases h : 10 ^ 18 ≤ number
      · right; exact fun h2 => hc ⟨h, h2⟩
      · left; exact h
    have q1 : pPow (.int b1) (.int 3) = some (.int (b1 ^ 3)) := pPow_s (n := 3) hb1 (by omega)
    have q2 : pPow (.int o2) (.int 5) = some (.int (o2 ^ 5)) := pPow_s (n := 5) hs2 (by omega)
    have q3 : pMul (.int m1) (.int ((k : Int) + 3)) = some (.int (m1 * ((k : Int) + 3))) := pMul_s hm1
    have q4 : pMul (.int o3) (.int 48271) = some (.int (o3 * 48271)) := pMul_s hs3
    have q5 : pMul (.int 7919) (.int salt) = some (.int (7919 * salt)) := pMul_s s7919
    have q6 : pMul (.int 104729) (.int ((k : Int) + 1)) = some (.int (104729 * ((k : Int) + 1))) := pMul_s s104729
    have q7 : pDiv (.int o4) (.int 16) = some (.int (o4 / 16)) := by simp [wide16]
    have r1 : pMod (.int number) (.int 2147483629) = some (.int (number % 2147483629)) := pMod_s (by omega)
    have r2 : pMod (.int (b1 ^ 3)) (.int 2147483647) = some (.int o1) := pMod_s (by omega)
    have r3 : pMod (.int (m1 * ((k : Int) + 3))) (.int 2147483629) = some (.int o2) := pMod_s (by omega)
    have r4 : pMod (.int (o2 ^ 5)) (.int 2147483647) = some (.int o3) := pMod_s (by omega)
    have r5 : pMod (.int (o3 * 48271)) (.int 2147483629) = some (.int o4) := pMod_s (by omega)
    have t1 : pAdd (.int (number % 2147483629 + 7919 * salt)) (.int 1) = some (.int b1) := rfl
    have t2 : pAdd (.int o1) (.int (104729 * ((k : Int) + 1))) = some (.int m1) := rfl
    have t3 : pAdd (.int (number % 2147483629)) (.int (7919 * salt)) = some (.int (number % 2147483629 + 7919 * salt)) := rfl
    have t4 : pAdd (.int (k : Int)) (.int 1) = some (.int ((k : Int) + 1)) := rfl
    have t5 : pAdd (.int (k : Int)) (.int 3) = some (.int ((k : Int) + 3)) := rfl
    unfold nmBody
    simp -implicitDefEqProofs only [sIf_app, eAnd_app, eOp_app, eBor_app, eC_app, List.getElem?_cons_succ, List.getElem?_cons_zero, R.bind_ok, e18, ofO_some, pGe, pGt, thenO_ok, andK_b, cf, ifS_f, sSeq_app, sApp_app, sAsg_app, ix, pMod_s hz, List.set_cons_succ, List.set_cons_zero, hf, if_pos, seqO_nx, q1, q2, q3, q4, q5, q6, q7, r1, r2, r3, r4, r5, t1, t2, t3, t4, t5]
theorem numbers_loop (c salt number : Int) (sizes : List Int) (hs : 0 ≤ salt ∧ salt ≤ 1000000) (hw : ∀ z ∈ sizes, 0 < z ∧ wideI z = true) (hn : sizes.length < 1000000) : ∀ (ks : List Nat) (found : List PV) (left : Int) (x6 x7 : Sl), (∀ k ∈ ks, k < sizes.length) → 0 ≤ left → found.length + ks.length ≤ 1000000 →
    ∃ (ds : List Int) (left' : Int) (x6' x7' : Sl), ds.length = ks.length ∧ (∀ (j : Nat) d k z, ds[j]? = some d → ks[j]? = some k → sizes[k]? = some z → 0 ≤ d ∧ d < z) ∧
      forF (bName 6) nmBody (ks.map fun k => .int ((0 : Int) + (k : Nat))) [.v (.int c), .v (.int salt), .b (.lst (sizes.map .int)), .v (.int number), .v (.int left), .o found, x6, x7] = .nx [.v (.int c), .v (.int salt), .b (.lst (sizes.map .int)), .v (.int number), .v (.int left'), .o (found ++ ds.map .int), x6', x7']
  | [], found, left, x6, x7, _, _, _ => ⟨[], left, x6, x7, rfl, fun j d k z e => (by simp at e), by simp [forF]⟩
  | k :: ks, found, left, x6, x7, hk, hl, hf => by
    have hkl : k < sizes.length := hk k List.mem_cons_self
    have hz := hw sizes[k] (List.getElem_mem hkl)
    simp -implicitDefEqProofs only [List.length_cons] at hf
    obtain ⟨d, left1, x71, d0, d1, l1, e1⟩ := numbers_step c salt number left sizes found k sizes[k] x7 (List.getElem?_eq_getElem hkl) hz.1 hz.2 hs (by omega) hl (by omega)
    obtain ⟨ds, left2, x62, x72, g1, g2, g3⟩ := numbers_loop c salt number sizes hs hw hn ks (found ++ [.int d]) left1 (.v (.int (k : Int))) x71 (fun j hj => hk j (List.mem_cons_of_mem _ hj)) l1 (by simp; omega)
    refine ⟨d :: ds, left2, x62, x72, by simp [g1], fun j d' k' z e2 e3 e4 => ?_, ?_⟩
    · cases j with
      | zero =>
        simp at e2 e3
        subst e2; subst e3
        rw [List.getElem?_eq_getElem hkl] at e4
        cases e4
        exact ⟨d0, d1⟩
      | succ j => exact g2 j d' k' z (by simpa using e2) (by simpa using e3) e4
    · simp -implicitDefEqProofs only [List.map_cons, forF, bName, List.set_cons_succ, List.set_cons_zero, Int.zero_add, e1]
      simp -implicitDefEqProofs only [Int.zero_add] at g3
      rw [g3]
      simp
def nmAll : SX := (sSeq (sAsg 3 (eCB (on2 pMax2) (aCons (eBor 0) (aCons (eOp pSub (eUn pNeg (eC (.int 1))) (eBor 0)) aNil))))
      (sSeq (sAsg 4 (eVar 3)) (sSeq (sOwn 5 (aNil)) (sSeq (sFor (bName 6) (lUn iRn1 (eCB (on1 pLen) (aCons (eBor 2) aNil))) nmBody) (sRetO 5)))))
theorem nmAll_eq : b_law_numbers = nmAll := rfl
/-- the numbers drawn of a cell: each below its size -/
theorem numbers_ok (c salt : Int) (sizes : List Int) (hs : 0 ≤ salt ∧ salt ≤ 1000000) (hw : ∀ z ∈ sizes, 0 < z ∧ wideI z = true) (hn : sizes.length < 1000000) :
    ∃ ds : List Int, m_law_numbers [.int c, .int salt, .lst (sizes.map .int)] = .ok (ds.map .int) ∧ ds.length = sizes.length ∧ ∀ (j : Nat) d z, ds[j]? = some d → sizes[j]? = some z → 0 ≤ d ∧ d < z := by
  have hnum : ∃ number : Int, 0 ≤ number ∧ (if -1 - c > c then -1 - c else c) = number := ⟨_, by split <;> omega, rfl⟩
  obtain ⟨number, hnum, e3⟩ := hnum
  obtain ⟨ds, left', x6', x7', g1, g2, g3⟩ := numbers_loop c salt number sizes hs hw hn (List.range sizes.length) [] number .u .u (fun k hk => List.mem_range.mp hk) hnum (by simp -implicitDefEqProofs only [List.length_nil, List.length_range]; omega)
  refine ⟨ds, ?_, by simpa using g1, fun j d z e1 e2 => ?_⟩
  · have hr := rn1_nat sizes.length (by omega)
    simp -implicitDefEqProofs only [rngP] at hr
    simp -implicitDefEqProofs only [m_law_numbers, nmAll_eq, nmAll, mkF, List.length_cons, List.length_nil, if_pos, argS, env0, List.replicate, List.cons_append, List.nil_append]
    have s1 : (sAsg 3 (eCB (on2 pMax2) (aCons (eBor 0) (aCons (eOp pSub (eUn pNeg (eC (.int 1))) (eBor 0)) aNil)))) [.v (.int c), .v (.int salt), .b (.lst (sizes.map .int)), .u, .u, .u, .u, .u] = .nx [.v (.int c), .v (.int salt), .b (.lst (sizes.map .int)), .v (.int number), .u, .u, .u, .u] := by
      rw [← e3]; rfl
    have s2 : sAsg 4 (eVar 3) [.v (.int c), .v (.int salt), .b (.lst (sizes.map .int)), .v (.int number), .u, .u, .u, .u] = .nx [.v (.int c), .v (.int salt), .b (.lst (sizes.map .int)), .v (.int number), .v (.int number), .u, .u, .u] := rfl
    have s3 : sOwn 5 aNil [.v (.int c), .v (.int salt), .b (.lst (sizes.map .int)), .v (.int number), .v (.int number), .u, .u, .u] = .nx [.v (.int c), .v (.int salt), .b (.lst (sizes.map .int)), .v (.int number), .v (.int number), .o [], .u, .u] := rfl
    have s4 : sFor (bName 6) (lUn iRn1 (eCB (on1 pLen) (aCons (eBor 2) aNil))) nmBody [.v (.int c), .v (.int salt), .b (.lst (sizes.map .int)), .v (.int number), .v (.int number), .o [], .u, .u] = .nx [.v (.int c), .v (.int salt), .b (.lst (sizes.map .int)), .v (.int number), .v (.int left'), .o ([] ++ ds.map .int), x6', x7'] := by
      simp (config := {implicitDefEqProofs := false}) only [sFor_app, lUn_app, eCB_app, aCons_app, eBor_app, List.getElem?_cons_succ, List.getElem?_cons_zero, R.bind_ok, aNil_app, on1, pLen, List.length_map, ofO_some, hr, thenO_ok]
      exact g3
    simp (config := {implicitDefEqProofs := false}) only [runF, sSeq_app, s1, s2, s3, s4, seqO_nx, sRetO_app, List.getElem?_cons_succ, List.getElem?_cons_zero, List.nil_append, outF_rf]
  · have hj : j < sizes.length := (List.getElem?_eq_some_iff.mp e2).1
    exact g2 j d j z e1 (by simp [hj]) e2
end LK

set_option linter.all false
set_option maxRecDepth 100000
namespace LK
open JP
theorem fig_mem (c : Nat) : decide (c ∈ [48, 49, 50, 51, 52, 53, 54, 55, 56, 57]) = (decide (48 ≤ c) && decide (c ≤ 57)) := by
  rw [Bool.eq_iff_iff]
  simp
  omega
theorem dig_all {s : List Nat} (h : ∀ (k c : Nat), s[k]? = some c → (decide (48 ≤ c) && decide (c ≤ 57)) = true) : digS s = true := by
  simp only [digS, List.all_eq_true]
  intro c hc
  obtain ⟨k, hk⟩ := List.mem_iff_getElem?.mp hc
  exact h k c hk
theorem dig_not {s : List Nat} {k c : Nat} (h : s[k]? = some c) (hc : (decide (48 ≤ c) && decide (c ≤ 57)) = false) : digS s = false := by
  simp only [digS, List.all_eq_false]
  exact ⟨c, List.mem_iff_getElem?.mpr ⟨k, h⟩, by simp [hc]⟩
def wrN (s : List Nat) : Bool := digS s && !s.isEmpty && (s.head? != some 48 || s == [48])
theorem writes_eq (s : List Nat) (h : s.length ≤ 1000000) : m_writes_number [.str s] = .ok (.bl (wrN s)) := by
  refine m_of rfl ?_
  unfold b_writes_number
  simp -implicitDefEqProofs
  refine res_for (fun k e => ∃ x, e = [.v (.str s), x] ∧ ∀ j c, j < k → s[j]? = some c → (decide (48 ≤ c) && decide (c ≤ 57)) = true) (ps := s.map fun c => .str [c]) (by simp) ⟨_, rfl, fun j c hj => absurd hj (by omega)⟩ ?_ ?_
  · rintro k p e hk ⟨x, rfl, ih⟩
    obtain ⟨c, hc, rfl⟩ := str_at hk
    refine ⟨_, rfl, ?_⟩
    simp -implicitDefEqProofs only [sIf_app, eOp_app, eBor_app, bName_app, List.set_cons_succ, List.set_cons_zero, List.getElem?_cons_succ, List.getElem?_cons_zero, R.bind_ok, pNinS, fig_mem, ofO_some, thenO_ok, eC_app]
    refine res_if (fun h => ?_) (fun h => ?_)
    · have : digS s = false := dig_not hc (by rw [Bool.not_eq_true'] at h; exact h)
      simp [wrN, this]
    · simp only [sNil_app, Res_nx, After_nx]
      refine ⟨_, rfl, fun j c' hj hc' => ?_⟩
      by_cases e : j = k
      · subst e
        rw [hc] at hc'
        cases hc'
        rw [Bool.not_eq_false'] at h
        exact h
      · exact ih j c' (by omega) hc'
  · rintro e ⟨x, rfl, hd⟩
    have hd : digS s = true := dig_all fun k c hk => hd k c (by
      have := (List.getElem?_eq_some_iff.mp hk).1
      simpa using this) hk
    cases s with
    | nil => simp [wrN]
    | cons c r =>
      have hr : r.length ≤ 999999 := by simp at h; omega
      simp [wrN, hd, atN, hr]
      rfl
theorem show_eq (i : Int) (h0 : 0 ≤ i) (h1 : i < bigI) : m_show_number [.int i] = .ok (.str (numD i.toNat)) := by
  refine m_of rfl ?_
  unfold b_show_number
  simp [h0, h1]
def noT : PX := ⟨"NoText", [("row", .int 0)]⟩
theorem read_str (s : List Nat) (h : s.length ≤ 1000000) : m_read_number [.str s] = if s.length ≤ 60 ∧ wrN s = true then .ok (.int (valS s)) else .ex noT := by
  have hw := writes_eq s h
  refine m_of rfl ?_
  unfold b_read_number
  by_cases hl : s.length ≤ 60
  · have h6 : ¬ (60 : Int) < s.length := by omega
    cases hv : wrN s with
    | false =>
      simp [hw, hv, h6, h, noT]
    | true =>
      have hd : digS s = true := by simp [wrN] at hv; exact hv.1.1
      have hn : s ≠ [] := by simp [wrN] at hv; exact hv.1.2
      have : s.length ≤ 600 := by omega
      simp [h6, hv, hd, hn, this, hl, hw, h]
  · have : (60 : Int) < s.length := by omega
    simp [this, hl, noT, hw, h]
theorem digS_num (n : Nat) : wrN (numD n) = true := by
  have h1 := numD_dig n
  have h2 := numD_ne n
  by_cases h : n = 0
  · subst h; rw [numD_zero]; rfl
  · have := numD_head (n := n) (by omega)
    simp [wrN, h1, h2, this]
end LK

set_option linter.all false
set_option maxRecDepth 100000
namespace JP
structure Aft (J B : Ev → Prop) (Z : Ou → Prop) (o : Ou) : Prop where
  h : After o J B Z
@[simp] theorem Aft_nx (e : Ev) (J B : Ev → Prop) (Z : Ou → Prop) : Aft J B Z (.nx e) = J e := propext ⟨fun h => h.h, fun h => ⟨h⟩⟩
@[simp] theorem Aft_ct (e : Ev) (J B : Ev → Prop) (Z : Ou → Prop) : Aft J B Z (.ct e) = J e := propext ⟨fun h => h.h, fun h => ⟨h⟩⟩
@[simp] theorem Aft_bk (e : Ev) (J B : Ev → Prop) (Z : Ou → Prop) : Aft J B Z (.bk e) = B e := propext ⟨fun h => h.h, fun h => ⟨h⟩⟩
@[simp] theorem Aft_rt (p : PV) (J B : Ev → Prop) (Z : Ou → Prop) : Aft J B Z (.rt p) = Z (.rt p) := propext ⟨fun h => h.h, fun h => ⟨h⟩⟩
@[simp] theorem Aft_rf (p : List PV) (J B : Ev → Prop) (Z : Ou → Prop) : Aft J B Z (.rf p) = Z (.rf p) := propext ⟨fun h => h.h, fun h => ⟨h⟩⟩
@[simp] theorem Aft_ex (x : PX) (e : Ev) (J B : Ev → Prop) (Z : Ou → Prop) : Aft J B Z (.ex x e) = Z (.ex x e) := propext ⟨fun h => h.h, fun h => ⟨h⟩⟩
@[simp] theorem Aft_bad  (J B : Ev → Prop) (Z : Ou → Prop) : Aft J B Z .bad = Z .bad := propext ⟨fun h => h.h, fun h => ⟨h⟩⟩
theorem Res.imp {o : Ou} {P Q : Ou → Prop} (h : Res o P) (k : ∀ o, P o → Q o) : Res o Q := ⟨k o h.h⟩
/-- one turn of a loop's body -/
abbrev Turn (s : SX) (e1 : Ev) (I : Ev → Prop) (t : SX) (Q : Ou → Prop) : Prop := ∀ (J B : Ev → Prop) (Z : Ou → Prop), (∀ e, I e → J e) → (∀ e, Res (t e) Q → B e) → (∀ o, Q o → Z o) → (¬ Q .bad → ¬ Z .bad) → Res (s e1) (Aft J B Z)
theorem Turn.after {s t : SX} {e1 : Ev} {I : Ev → Prop} {Q : Ou → Prop} (h : Turn s e1 I t Q) : Res (s e1) (fun o => After o I (fun e => Res (t e) Q) Q) := (h I (fun e => Res (t e) Q) Q (fun _ h => h) (fun _ h => h) (fun _ h => h) id).imp fun o h => h.h
theorem for_m {α : Type} {b : BX} {it : AX} {s t : SX} {env : Ev} {Q : Ou → Prop} (c : α → PV) (xs : List α) (I : List α → Ev → Prop) (hit : it env = .ok (xs.map c)) (h0 : I [] env)
    (hs : ∀ pre x post e, xs = pre ++ x :: post → I pre e → ∃ e1, b (c x) e = .ok e1 ∧ Turn s e1 (I (pre ++ [x])) t Q)
    (hk : ∀ e, I xs e → Res (t e) Q) : Res (seqO (sFor b it s env) t) Q :=
  res_forM c xs I hit h0 (fun pre x post e h1 h2 => let ⟨e1, a, b⟩ := hs pre x post e h1 h2; ⟨e1, a, b.after⟩) hk
theorem for_e {α : Type} {b : BX} {it : AX} {s t : SX} {env : Ev} {Q : Ou → Prop} (c : α → PV) (xs : List α) (I : List α → Ev → Prop) (hit : it env = .ok (enumP 0 (xs.map c))) (h0 : I [] env)
    (hs : ∀ pre x post e, xs = pre ++ x :: post → I pre e → ∃ e1, b (.tup [.int (pre.length : Nat), c x]) e = .ok e1 ∧ Turn s e1 (I (pre ++ [x])) t Q)
    (hk : ∀ e, I xs e → Res (t e) Q) : Res (seqO (sFor b it s env) t) Q :=
  res_forE c xs I hit h0 (fun pre x post e h1 h2 => let ⟨e1, a, b⟩ := hs pre x post e h1 h2; ⟨e1, a, b.after⟩) hk
theorem for_r {b : BX} {it : AX} {s t : SX} {env : Ev} {Q : Ou → Prop} (lo : Int) (n : Nat) (I : Nat → Ev → Prop) (hit : it env = .ok (rngP lo n)) (h0 : I 0 env)
    (hs : ∀ k e, k < n → I k e → ∃ e1, b (.int (lo + (k : Nat))) e = .ok e1 ∧ Turn s e1 (I (k + 1)) t Q)
    (hk : ∀ e, I n e → Res (t e) Q) : Res (seqO (sFor b it s env) t) Q :=
  res_forR lo n I hit h0 (fun k e h1 h2 => let ⟨e1, a, b⟩ := hs k e h1 h2; ⟨e1, a, b.after⟩) hk
/-- .. as the last statement of a block -/
abbrev Turn0 (s : SX) (e1 : Ev) (I : Ev → Prop) (Q : Ou → Prop) : Prop := ∀ (J B : Ev → Prop) (Z : Ou → Prop), (∀ e, I e → J e) → (∀ e, Q (.nx e) → B e) → (∀ o, Q o → Z o) → (¬ Q .bad → ¬ Z .bad) → Res (s e1) (Aft J B Z)
theorem Turn0.after {s : SX} {e1 : Ev} {I : Ev → Prop} {Q : Ou → Prop} (h : Turn0 s e1 I Q) : Res (s e1) (fun o => After o I (fun e => Q (.nx e)) Q) := (h I (fun e => Q (.nx e)) Q (fun _ h => h) (fun _ h => h) (fun _ h => h) id).imp fun o h => h.h
/-- the end of a def, closed -/
theorem m_fin {n : Nat} {md : List Bool} {s : SX} {ps : List PV} (P : R PV → Prop) (hl : ps.length = md.length) (hb : ¬ P .bad) (h : ∀ Z : Ou → Prop, (∀ o, P (outP o) → Z o) → ¬ Z .bad → Res (s (env0 n (argS md ps))) Z) : P (mkP n md s ps) :=
  m_ex hl (h _ (fun _ h => h) hb)
@[simp] theorem rngC_length (lo c : Int) (n : Nat) : (rngC lo c n).length = n := by simp [rngC]
end JP

set_option linter.all false
set_option maxRecDepth 100000
namespace JP
@[simp] theorem tryE_rs' (hs : List (String × Option Nat × SX)) (p : PV) (S : List Cl) : tryE hs (.rs p S) = .rs p S := rfl
/-- the store beside the first parameter -/
def envH (n : Nat) (S : List Cl) (p : PV) (xs : List Sl) : Ev := .h p S :: (xs ++ List.replicate (n - (xs.length + 1)) .u)
@[simp] theorem envH_app (n : Nat) (S : List Cl) (p : PV) (xs : List Sl) : envH n S p xs = .h p S :: (xs ++ List.replicate (n - (xs.length + 1)) .u) := rfl
end JP

set_option linter.all false
set_option maxRecDepth 100000
namespace JP
end JP

set_option linter.all false
namespace JP
def seqR {α : Type} (r : α → R PV) : List α → R (List PV)
  | [] => .ok []
  | x :: xs => (r x).bind fun y => (seqR r xs).bind fun ys => .ok (y :: ys)
@[simp] theorem seqR_nil {α : Type} (r : α → R PV) : seqR r [] = .ok [] := rfl
@[simp] theorem seqR_cons {α : Type} (r : α → R PV) (x : α) (xs : List α) : seqR r (x :: xs) = (r x).bind fun y => (seqR r xs).bind fun ys => .ok (y :: ys) := rfl
theorem compX_of {α : Type} {b : BX} {t f : EX} {env : Ev} (c : α → PV) (r : α → R PV) : ∀ xs : List α, (∀ x ∈ xs, ∃ e, b (c x) env = .ok e ∧ t e = .ok (.bl true) ∧ f e = r x) → compX b t f (xs.map c) env = seqR r xs
  | [], _ => rfl
  | x :: xs, h => by
    obtain ⟨e, h1, h2, h3⟩ := h x List.mem_cons_self
    have ih := compX_of (b := b) (t := t) (f := f) (env := env) c r xs fun y hy => h y (List.mem_cons_of_mem _ hy)
    rw [List.map_cons, seqR_cons]
    unfold compX
    rw [h1]
    dsimp only
    rw [h2]
    dsimp only
    rw [h3, ih]
theorem compXK_of {α : Type} {is : List Nat} {b : BX} {t f : EX} {env : Ev} (c : α → PV) (r : α → R PV) (xs : List α) (hl : xs.length ≤ 1000000) (h : ∀ x ∈ xs, ∃ e, b (c x) (wipeE env is) = .ok e ∧ t e = .ok (.bl true) ∧ f e = r x) : compXK is b t f env (xs.map c) = seqR r xs := by
  unfold compXK
  rw [if_pos (by simpa using hl)]
  exact compX_of c r xs h
theorem seqR_all {α : Type} {r : α → R PV} {g : α → PV} : ∀ {xs : List α}, (∀ x ∈ xs, r x = .ok (g x)) → seqR r xs = .ok (xs.map g)
  | [], _ => rfl
  | x :: xs, h => by
    rw [seqR_cons, h x List.mem_cons_self, seqR_all fun y hy => h y (List.mem_cons_of_mem _ hy)]
    rfl
end JP

set_option linter.all false
set_option maxRecDepth 100000
namespace LK
open JP
abbrev S := List Nat
def SGN : List Nat := [32, 33, 34, 35, 36, 38, 39, 40, 41, 42, 43, 44, 45, 46, 47, 48, 49, 50, 51, 52, 53, 54, 55, 56, 57, 58, 59, 60, 61, 62, 63, 64, 65, 66, 67, 68, 69, 70, 71, 72, 73, 74, 75, 76, 77, 78, 79, 80, 81, 82, 83, 84, 85, 86, 87, 88, 89, 90, 91, 92, 93, 94, 95, 96, 97, 98, 99, 100, 101, 102, 103, 104, 105, 106, 107, 108, 109, 110, 111, 112, 113, 114, 115, 116, 117, 118, 119, 120, 121, 122, 123, 124, 125, 126]
structure Tab where
  sg : S
  rw : List (S × S)
def cat2 (r : S × S) : S := r.1 ++ r.2
def sgl (s : S) : List S := s.map fun c => [c]
def Tab.pcs (t : Tab) : List S := sgl t.sg ++ t.rw.map cat2
def rowP (r : S × S) : PV := .tup [.str r.1, .str r.2]
def byT (ps : List S) : List (PV × PV) := ps.zipIdx.map fun q => (.str q.1, .int (q.2 : Nat))
def byP (rs : List (S × S)) : List (PV × PV) := rs.zipIdx.map fun q => (rowP q.1, .int (q.2 : Nat))
def Tab.flds (t : Tab) : List PV := [.str t.sg, .dct false (byT t.pcs), .dct true (byP t.rw), .lst (t.rw.map rowP), .lst (t.pcs.map .str)]
def Tab.pv (t : Tab) : PV := .ob 0 t.flds
def RowsOk : List S → List (S × S) → Prop
  | _, [] => True
  | ps, r :: rs => (r.1 ∈ ps ∧ r.2 ∈ ps ∧ r.1.length + r.2.length ≤ 16 ∧ cat2 r ∉ ps) ∧ RowsOk (ps ++ [cat2 r]) rs
structure SgOk (s : S) : Prop where
  s1 : 1 ≤ s.length
  s2 : s.length ≤ 12
  s3 : ∀ c ∈ s, c ∈ SGN
  s4 : s.Nodup
structure Tab.Ok (t : Tab) : Prop extends SgOk t.sg where
  r1 : t.rw.length ≤ 24
  r2 : RowsOk (sgl t.sg) t.rw
theorem rowP_eq (a b : S × S) : eqP (rowP a) (rowP b) = (a == b) := by
  obtain ⟨a1, a2⟩ := a
  obtain ⟨b1, b2⟩ := b
  rw [Bool.eq_iff_iff]; simp [rowP]
def isSg : PV → Bool
  | .str [c] => decide (c ∈ SGN)
  | _ => false
def noTab (part : S) (n : PV) : PX := ⟨"NoTable", [("part", .str part), ("number", n)]⟩
def sSigns : S := [115, 105, 103, 110, 115]
def sRows : S := [114, 111, 119, 115]
def badS : S → S → Option Nat
  | _, [] => none
  | pre, c :: r => if c ∈ SGN ∧ c ∉ pre then badS (pre ++ [c]) r else some pre.length
def nxB (ps : List S) : PV → Bool
  | .tup [.str a, .str b] => decide (a ∈ ps) && decide (b ∈ ps) && decide (a.length + b.length ≤ 16) && decide (a ++ b ∉ ps)
  | _ => false
/-- a thing that may be looked at -/
def okP : PV → Prop
  | .tup ps => ps.length ≤ 1000000 ∧ ∀ p ∈ ps, tyP p = true ∧ ∀ s, p = .str s → s.length ≤ 400000
  | p => tyP p = true
end LK

set_option linter.all false
set_option maxRecDepth 100000
namespace LK
open JP
def optI : Option Nat → PV
  | none => .non
  | some n => .int (n : Nat)
def Tab.whichO (t : Tab) (s : S) : Option Nat := if s ∈ t.pcs then some (t.pcs.idxOf s) else none
def whP (t : Tab) : PV → PV
  | .str s => optI (t.whichO s)
  | _ => .non
@[simp] theorem pv_isOb (t : Tab) : isOb 0 t.pv = true := rfl
/-- the parts of a piece -/
def Tab.partsO (t : Tab) (s : S) : Option (S × S) := if t.sg.length ≤ t.pcs.idxOf s then t.rw[t.pcs.idxOf s - t.sg.length]? else none
def optR : Option (S × S) → PV
  | none => .non
  | some r => rowP r
def noPiece (n : PV) : PX := ⟨"NoPiece", [("place", n)]⟩
def side (d : Bool) (r : S × S) : S := if d then r.2 else r.1
/-- the edge of a piece at a side -/
def Tab.edgeN (t : Tab) (d : Bool) : Nat → S → List S
  | 0, s => [s]
  | n + 1, s => match t.partsO s with
    | none => [s]
    | some r => s :: t.edgeN d n (side d r)
def Tab.edge (t : Tab) (d : Bool) (s : S) : List S := t.edgeN d s.length s
end LK

set_option linter.all false
set_option maxRecDepth 100000
namespace LK
open JP
@[simp] theorem map_sgl (s : S) : s.map (fun c => PV.str [c]) = (sgl s).map .str := by simp [sgl]
@[simp] theorem sgl_len (s : S) : (sgl s).length = s.length := by simp [sgl]
@[simp] theorem eqP_row (a b : S × S) : eqP (rowP a) (rowP b) = decide (a = b) := by rw [rowP_eq, Bool.eq_iff_iff]; simp
@[simp] theorem datP_row (a : S × S) : datP (rowP a) = true := by simp [rowP]
@[simp] theorem depP_row (a : S × S) : depP (rowP a) = 1 := by simp [rowP]
@[simp] theorem datPs_rows (rs : List (S × S)) : datPs (rs.map rowP) = true := datPs_map _ (by simp) rs
theorem depPs_rows (rs : List (S × S)) : depPs (rs.map rowP) ≤ 1 := depPs_map _ 1 (by simp) rs
@[simp] theorem depPs_rows62 (rs : List (S × S)) : depPs (rs.map rowP) ≤ 63 := Nat.le_trans (depPs_rows rs) (by decide)
@[simp] theorem eqPs_rows (xs ys : List (S × S)) : eqPs (xs.map rowP) (ys.map rowP) = decide (xs = ys) := eqPs_map _ (by simp) xs ys
end LK

set_option linter.all false
set_option maxRecDepth 100000
namespace LK
open JP
def sweep (l r : S) : List S → List S
  | a :: b :: rest => if a = l ∧ b = r then (l ++ r) :: sweep l r rest else a :: sweep l r (b :: rest)
  | [a] => [a]
  | [] => []
def sweeps (rs : List (S × S)) (row : List S) : List S := rs.foldl (fun row r => sweep r.1 r.2 row) row
def Tab.cut (t : Tab) (s : S) : List S := sweeps t.rw (sgl s)
def noSign (n : PV) : PX := ⟨"NoSign", [("place", n)]⟩
def badT (sg : S) : Nat → S → Option Nat
  | _, [] => none
  | k, c :: r => if c ∈ sg then badT sg (k + 1) r else some k
def lookT (t : Tab) : PV → R PV
  | .str s => match badT t.sg 0 s with
    | none => .ok .non
    | some k => .ex (noSign (.int (k : Nat)))
  | _ => .ex (noSign .non)
/-- a text of the table -/
def Tab.txt (t : Tab) (s : S) : Prop := ∀ c ∈ s, c ∈ t.sg
/-- a row of pieces -/
def Tab.row (t : Tab) (row : List S) : Prop := ∀ p ∈ row, p ∈ t.pcs
end LK

set_option linter.all false
set_option maxRecDepth 100000
namespace LK
open JP
/-- what the passes of the laws do -/
def stepL (l r : S) (acc : List S) (x : S) : List S := if x = r ∧ acc.getLast? = some l then acc.dropLast ++ [l ++ r] else acc ++ [x]
/-- the table of the first rows -/
def Tab.beg (t : Tab) (k : Nat) : Tab := ⟨t.sg, t.rw.take k⟩
end LK

set_option linter.all false
set_option maxRecDepth 100000
namespace LK
open JP
abbrev Way := Nat × Nat × Nat
structure Gr where
  many : Nat
  ways : List Way
  ends : List Nat
def wayP (w : Way) : PV := .tup [.int (w.1 : Nat), .str [w.2.1], .int (w.2.2 : Nat)]
def natP (n : Nat) : PV := .int (n : Nat)
def keyW (w : Way) : Nat × Nat := (w.1, w.2.1)
def keyP (k : Nat × Nat) : PV := .tup [.int (k.1 : Nat), .str [k.2]]
def byW (ws : List Way) : List (PV × PV) := ws.map fun w => (keyP (keyW w), .int (w.2.2 : Nat))
def Gr.flds (g : Gr) : List PV := [.dct true (byW g.ways), .int (g.many : Nat), .lst (g.ways.map wayP), .lst (g.ends.map natP)]
def Gr.pv (g : Gr) : PV := .ob 2 g.flds
structure Gr.Ok (g : Gr) : Prop where
  m1 : 1 ≤ g.many
  m2 : g.many ≤ 4
  w1 : g.ways.length ≤ 48
  w2 : ∀ w ∈ g.ways, w.1 < g.many ∧ w.2.1 ∈ SGN ∧ w.2.2 < g.many
  w3 : (g.ways.map keyW).Nodup
  e1 : ∀ n ∈ g.ends, n < g.many
  e2 : g.ends.Nodup
@[simp] theorem eqP_key (a b : Nat × Nat) : eqP (keyP a) (keyP b) = decide (a = b) := by
  obtain ⟨a1, a2⟩ := a
  obtain ⟨b1, b2⟩ := b
  rw [Bool.eq_iff_iff]; simp [keyP]
@[simp] theorem eqP_way (a b : Way) : eqP (wayP a) (wayP b) = decide (a = b) := by
  obtain ⟨a1, a2, a3⟩ := a
  obtain ⟨b1, b2, b3⟩ := b
  rw [Bool.eq_iff_iff]; simp [wayP]
@[simp] theorem datP_way (a : Way) : datP (wayP a) = true := by simp [wayP]
@[simp] theorem depP_way (a : Way) : depP (wayP a) = 1 := by simp [wayP]
@[simp] theorem datPs_ways (rs : List Way) : datPs (rs.map wayP) = true := datPs_map _ (by simp) rs
@[simp] theorem depPs_ways (rs : List Way) : depPs (rs.map wayP) ≤ 63 := Nat.le_trans (depPs_map _ 1 (by simp) rs) (by decide)
@[simp] theorem eqPs_ways (xs ys : List Way) : eqPs (xs.map wayP) (ys.map wayP) = decide (xs = ys) := eqPs_map _ (by simp) xs ys
@[simp] theorem eqP_nat (a b : Nat) : eqP (natP a) (natP b) = decide (a = b) := by rw [Bool.eq_iff_iff]; simp [natP]
@[simp] theorem datP_nat (a : Nat) : datP (natP a) = true := by simp [natP]
@[simp] theorem depP_nat (a : Nat) : depP (natP a) = 0 := by simp [natP]
@[simp] theorem datPs_nats (rs : List Nat) : datPs (rs.map natP) = true := datPs_map _ (by simp) rs
@[simp] theorem depPs_nats (rs : List Nat) : depPs (rs.map natP) = 0 := Nat.le_zero.mp (depPs_map _ 0 (by simp) rs)
@[simp] theorem eqPs_nats (xs ys : List Nat) : eqPs (xs.map natP) (ys.map natP) = decide (xs = ys) := eqPs_map _ (by simp) xs ys
@[simp] theorem natP_app (n : Nat) : natP n = .int (n : Nat) := rfl
def Gr.step (g : Gr) (st : Nat) (c : Nat) : Option Nat := (g.ways.find? fun w => decide (keyW w = (st, c))).map (·.2.2)
def Gr.leads (g : Gr) (st : Nat) (s : S) : Option Nat := s.foldl (fun o c => o.bind fun x => g.step x c) (some st)
def Gr.tells (g : Gr) (s : S) : Bool := match g.leads 0 s with
  | some x => decide (x ∈ g.ends)
  | none => false
end LK

set_option linter.all false
set_option maxRecDepth 100000
namespace LK
open JP
def Gr.tup (g : Gr) : PV := .tup [.int (g.many : Nat), .lst (g.ways.map wayP), .lst (g.ends.map natP)]
@[simp] theorem gpv_isOb (g : Gr) : isOb 2 g.pv = true := rfl
end LK

set_option linter.all false
set_option maxRecDepth 100000
namespace LK
open JP
/-- the dict of what makes each piece -/
def madeD (rs : List (S × S)) : List (PV × PV) := rs.map fun r => (.str (cat2 r), rowP r)
end LK

set_option linter.all false
set_option maxRecDepth 100000
namespace LK
open JP
def sub (s : S) (b e : Nat) : S := (s.take e).drop b
def Tab.bgs (t : Tab) (s : S) (e : Nat) : List Nat := (List.range e).filter fun b => decide (sub s b e ∈ t.pcs)
structure Hts (t : Tab) (s : S) (h : Nat → Nat) : Prop where
  z : h 0 = 0
  le : ∀ e, 1 ≤ e → e ≤ s.length → ∀ b ∈ t.bgs s e, h e ≤ h b + 1
  ex : ∀ e, 1 ≤ e → e ≤ s.length → ∃ b ∈ t.bgs s e, h e = h b + 1
def hF (hs : List Nat) (j : Nat) : Nat := hs[j]?.getD 0
def strs? : List PV → Option (List S) := asS
def Lets (t : Tab) (s : S) (hs : List Int) : Prop := hs.length = s.length + 1 ∧ hs[0]? = some 0 ∧ ∀ e, 1 ≤ e → e ≤ s.length → ∀ b ∈ t.bgs s e, hs[e]?.getD 0 ≤ hs[b]?.getD 0 + 1
end LK

set_option linter.all false
set_option maxRecDepth 100000
namespace LK
open JP
def patS (ps : List S) (s : S) (k : Nat) : List S := ps.filter fun p => decide (sub s k (k + p.length) = p)
end LK

set_option linter.all false
set_option maxRecDepth 100000
namespace LK
open JP
def noNumber (n : PV) : PX := ⟨"NoNumber", [("place", n)]⟩
/-- the piece of a number -/
def pcP (t : Tab) : PV → R PV
  | .int i => if 0 ≤ i ∧ i < t.pcs.length then .ok (.str (t.pcs[i.toNat]?.getD [])) else .ex (noNumber .non)
  | _ => .ex (noNumber .non)
def ptP (t : Tab) : PV → R PV
  | .str s => if s ∈ t.pcs then .ok (optR (t.partsO s)) else .ex (noPiece .non)
  | _ => .ex (noPiece .non)
/-- the rank of two things -/
def Tab.rankO (t : Tab) (l r : S) : Option Nat := if (l, r) ∈ t.rw then some (t.rw.idxOf (l, r)) else none
def rkP (t : Tab) : PV → PV → PV
  | .str l, .str r => optI (t.rankO l r)
  | _, _ => .non
end LK

set_option linter.all false
set_option maxRecDepth 100000
namespace LK
open JP
def nstr (ns : List Nat) : S := joinS [32] (ns.map numD)
def okN (n : Nat) : Prop := (numD n).length ≤ 60 ∧ ((n : Nat) : Int) < bigI
theorem okN_of {n : Nat} (h : n < 10 ^ 60) : okN n := ⟨numD_len (by decide) h, by
  have h1 : (n : Int) < 10 ^ 60 := by exact_mod_cast h
  exact Int.lt_trans h1 (by unfold bigI; decide +kernel)⟩
theorem show_nat (n : Nat) (h : okN n) : m_show_number [.int (n : Nat)] = .ok (.str (numD n)) := by
  have := show_eq (n : Int) (by omega) h.2
  simpa using this
theorem numD_len60 {n : Nat} (h : okN n) : (numD n).length ≤ 60 := h.1
theorem lenS_le (k : Nat) : ∀ ys : List S, (∀ y ∈ ys, y.length ≤ k) → lenS ys ≤ ys.length * k
  | [], _ => by simp [lenS]
  | y :: ys, h => by
    have h1 := lenS_le k ys fun z hz => h z (List.mem_cons_of_mem _ hz)
    have h2 := h y List.mem_cons_self
    simp only [lenS, List.map_cons, List.sum_cons, List.length_cons, Nat.add_mul, Nat.one_mul] at h1 ⊢
    omega
theorem join_sep (c : Nat) (ys : List S) (h : lenS ys + ys.length ≤ 1000000) : pJoin (.str [c]) (.lst (ys.map .str)) = some (.str (joinS [c] ys)) := by
  rw [pJoin_0, asS_strs]
  simp [h]
theorem show_numbers_eq (ns : List Nat) (h : ∀ n ∈ ns, okN n) (hl : ns.length ≤ 1000) : m_show_numbers [.lst (ns.map fun n : Nat => PV.int (n : Nat))] = .ok (.str (nstr ns)) := by
  refine m_of rfl ?_
  unfold b_show_numbers
  have hc : ∀ e0 e1, compK [1] (bName 1) (eC (.bl true)) (eCall m_show_number (aCons (eVar 1) aNil)) [e0, e1] (ns.map fun n : Nat => PV.int (n : Nat)) = .ok ((ns.map numD).map .str) := by
    intro e0 e1
    rw [compK_all (fun n : Nat => PV.int (n : Nat)) (fun n => PV.str (numD n)) ns (by omega) fun n hn => ⟨_, rfl, rfl, ?_⟩]
    · rw [List.map_map]; rfl
    · have := show_nat n (h n hn)
      simp -implicitDefEqProofs [this]
  have hj := join_sep 32 (ns.map numD) (by
    have := lenS_le 60 (ns.map numD) (fun y hy => by
      obtain ⟨n, hn, rfl⟩ := List.mem_map.mp hy
      exact numD_len60 (h n hn))
    rw [List.length_map] at this ⊢
    omega)
  rw [show nstr ns = joinS [32] (ns.map numD) from rfl]
  generalize (ns.map numD) = ds at *
  simp -implicitDefEqProofs [-pJoin_0, hc, hj]
theorem splitS_acc (c : Nat) : ∀ (s acc : S), c ∉ s → splitS c acc s = [acc ++ s]
  | [], acc, _ => by simp [splitS]
  | d :: s, acc, h => by
    have h1 : d ≠ c := fun e => h (by rw [e]; exact List.mem_cons_self)
    rw [splitS, if_neg h1, splitS_acc c s _ fun z => h (List.mem_cons_of_mem _ z)]
    simp
theorem splitS_at (c : Nat) : ∀ (s acc r : S), c ∉ s → splitS c acc (s ++ c :: r) = (acc ++ s) :: splitS c [] r
  | [], acc, r, _ => by simp [splitS]
  | d :: s, acc, r, h => by
    have h1 : d ≠ c := fun e => h (by rw [e]; exact List.mem_cons_self)
    rw [List.cons_append, splitS, if_neg h1, splitS_at c s _ r fun z => h (List.mem_cons_of_mem _ z)]
    simp
theorem split_join (c : Nat) : ∀ ps : List S, ps ≠ [] → (∀ p ∈ ps, c ∉ p) → splitS c [] (joinS [c] ps) = ps
  | [], h, _ => absurd rfl h
  | [p], _, h => by simp [joinS, splitS_acc c p [] (h p (by simp))]
  | p :: q :: r, _, h => by
    rw [joinS, List.singleton_append, splitS_at c p [] _ (h p (by simp)), List.nil_append, split_join c (q :: r) (by simp) fun z hz => h z (List.mem_cons_of_mem _ hz)]
theorem joinS_len (c : Nat) : ∀ ps : List S, (joinS [c] ps).length ≤ lenS ps + ps.length
  | [] => by simp [joinS]
  | [p] => by simp [joinS, lenS]
  | p :: q :: r => by
    have := joinS_len c (q :: r)
    simp only [joinS, List.length_append, List.length_cons, List.length_nil, lenS, List.map_cons, List.sum_cons] at this ⊢
    omega
theorem numD_no {c : Nat} (hc : c < 48 ∨ 57 < c) (n : Nat) : c ∉ numD n := fun h => by
  have := numD_dig n
  simp only [digS, List.all_eq_true, Bool.and_eq_true, decide_eq_true_eq] at this
  have := this c h
  omega
theorem nstr_len (ns : List Nat) (h : ∀ n ∈ ns, okN n) : (nstr ns).length ≤ ns.length * 61 := by
  have h1 := joinS_len 32 (ns.map numD)
  have h2 := lenS_le 60 (ns.map numD) (fun y hy => by
    obtain ⟨n, hn, rfl⟩ := List.mem_map.mp hy
    exact numD_len60 (h n hn))
  rw [List.length_map] at h1 h2
  unfold nstr
  omega
theorem read_nat (n : Nat) (h : okN n) : m_read_number [.str (numD n)] = .ok (.int (n : Nat)) := by
  have hl := numD_len60 h
  rw [read_str _ (by omega), if_pos ⟨hl, digS_num n⟩, numD_val]
theorem nstr_ne (n : Nat) (ns : List Nat) : nstr (n :: ns) ≠ [] := by
  have := numD_ne n
  cases ns with
  | nil => simpa [nstr, joinS] using this
  | cons m r => simp [nstr, joinS, this]
theorem read_numbers_eq (n : Nat) (ns : List Nat) (h : ∀ m ∈ n :: ns, okN m) (hl : ns.length ≤ 1000) : m_read_numbers [.str (nstr (n :: ns))] = .ok ((n :: ns).map fun m : Nat => PV.int (m : Nat)) := by
  have hne := nstr_ne n ns
  have hle := nstr_len (n :: ns) h
  simp only [List.length_cons] at hle
  have h1 : (nstr (n :: ns)).length ≤ 1000000 := by omega
  have hs : splitS 32 [] (nstr (n :: ns)) = (n :: ns).map numD := split_join 32 _ (by simp) fun p hp => by
    obtain ⟨m, _, rfl⟩ := List.mem_map.mp hp
    exact numD_no (.inl (by decide)) m
  have hc : ∀ e0 e1, compXK [1] (bName 1) (eC (.bl true)) (eCall m_read_number (aCons (eVar 1) aNil)) [e0, e1] (((n :: ns).map numD).map .str) = .ok ((n :: ns).map fun m : Nat => PV.int (m : Nat)) := by
    intro e0 e1
    rw [List.map_map, compXK_of (PV.str ∘ numD) (fun n : Nat => R.ok (PV.int (n : Nat))) (n :: ns) (by simp; omega) fun m hm => ⟨_, rfl, rfl, ?_⟩]
    · exact seqR_all fun _ _ => rfl
    have := read_nat m (h m hm)
    simp -implicitDefEqProofs [this]
  generalize nstr (n :: ns) = s at *
  have hie : List.isEmpty s = false := by cases s <;> simp at hne ⊢
  refine f_of rfl ?_
  unfold b_read_numbers
  generalize (n :: ns).map numD = ds at *
  generalize ((n :: ns).map fun m : Nat => PV.int (m : Nat)) = rs at *
  simp -implicitDefEqProofs [hie, h1, hs, hc]
def sSgB : S := [115, 105, 103, 110, 115, 32]
def Tab.line (t : Tab) (r : S × S) : S := nstr [t.pcs.idxOf r.1, t.pcs.idxOf r.2]
def Tab.lines (t : Tab) : List S := (sSgB ++ t.sg) :: t.rw.map t.line
end LK

set_option linter.all false
set_option maxRecDepth 100000
namespace LK
open JP
theorem nums (c salt : Int) (sizes : List Int) (hs : 0 ≤ salt ∧ salt ≤ 1000000) (hz : ∀ z ∈ sizes, 0 < z ∧ z ≤ 10 ^ 60) (hn : sizes.length < 1000000) :
    ∃ ds : List Int, m_law_numbers [.int c, .int salt, .lst (sizes.map .int)] = .ok (ds.map .int) ∧ ds.length = sizes.length ∧ ∀ (j : Nat) (z : Int), sizes[j]? = some z → ∃ d, ds[j]? = some d ∧ 0 ≤ d ∧ d < z := by
  obtain ⟨ds, e, hl, hd⟩ := numbers_ok c salt sizes hs (fun z h => ⟨(hz z h).1, wideI_of (by
    have := hz z h
    have h2 : z.natAbs ≤ (10 ^ 60 : Int).natAbs := by omega
    exact Nat.lt_of_le_of_lt h2 (by decide))⟩) hn
  refine ⟨ds, e, hl, fun j z hz => ?_⟩
  have hj : j < ds.length := by rw [hl]; exact (List.getElem?_eq_some_iff.mp hz).1
  exact ⟨ds[j], by simp [hj], hd j ds[j] z (by simp [hj]) hz⟩
end LK

set_option linter.all false
set_option maxRecDepth 100000
namespace LK
open JP
theorem fold_take {s : List Nat} {k c : Nat} (h : s[k]? = some c) : s.take (k + 1) = s.take k ++ [c] := by
  rw [List.take_succ, h]; rfl
theorem number2_eq (s : List Nat) (h : s.length ≤ 1000000) : m_law_number_2 [.str s] = .ok (if s.length ≤ 60 ∧ wrN s = true then .int (valS s) else .non) := by
  refine m_of rfl ?_
  unfold b_law_number_2
  cases s with
  | nil => simp [wrN]
  | cons c r =>
    have hr : r.length ≤ 999999 := by simp at h; omega
    by_cases h6 : (60 : Int) < r.length + 1
    · have : ¬ (r.length + 1 ≤ 60) := by omega
      simp [hr, h6, this]
    by_cases h7 : c = 48 ∧ 1 < r.length + 1
    · have e1 : (1 : Int) < (r.length : Int) + 1 := by omega
      have e2 : r ≠ [] := by intro e; rw [e] at h7; simp at h7
      obtain ⟨rfl, h7⟩ := h7
      have : wrN (48 :: r) = false := by simp [wrN, e2]
      have e3 : 0 < r.length := by omega
      simp [hr, h6, atN, e1, this, e3]
    · have hf : (([c] == [48]) && decide ((1 : Int) < (r.length : Int) + 1)) = false := by
        by_cases hc : c = 48
        · have : ¬ ((1 : Int) < (r.length : Int) + 1) := by omega
          simp [this]
        · simp [hc]
      have hf2 : c = 48 → ¬ 0 < r.length := by intro e; omega
      simp -implicitDefEqProofs [hr, h6, atN, hf]
      refine res_if (fun h => ?_) (fun _ => ?_)
      · exfalso
        simp at h
        omega
      simp -implicitDefEqProofs
      refine res_for (fun k e => ∃ x, e = [.v (.str (c :: r)), .v (.int (valS ((c :: r).take k) : Nat)), x] ∧ ∀ (j d : Nat), j < k → (c :: r)[j]? = some d → (decide (48 ≤ d) && decide (d ≤ 57)) = true) (ps := (c :: r).map fun c => .str [c]) (by simp) ⟨_, rfl, fun j c hj => absurd hj (by omega)⟩ ?_ ?_
      · rintro k p e hk ⟨x, rfl, ih⟩
        obtain ⟨d, hd, rfl⟩ := str_at hk
        refine ⟨_, rfl, ?_⟩
        simp -implicitDefEqProofs only [sSeq_app, sIf_app, eOp_app, eBor_app, bName_app, List.set_cons_succ, List.set_cons_zero, List.getElem?_cons_succ, List.getElem?_cons_zero, R.bind_ok, pNinS, fig_mem, ofO_some, thenO_ok, eC_app, seqO_if]
        refine res_if (fun h => ?_) (fun h => ?_)
        · have : digS (c :: r) = false := dig_not hd (by rw [Bool.not_eq_true'] at h; exact h)
          simp [wrN, this]
        · rw [Bool.not_eq_false'] at h
          have e1 : valS ((c :: r).take (k + 1)) = valS ((c :: r).take k) * 10 + (d - 48) := by rw [fold_take hd, valS_app1]
          simp only [Bool.and_eq_true, decide_eq_true_eq] at h
          have e2 : ((valS ((c :: r).take k) : Int) * 10 + ((d : Int) - 48)) = ((valS ((c :: r).take (k + 1)) : Nat) : Int) := by omega
          have sm10 : smallI 10 = true := smallI_of (by decide)
          simp -implicitDefEqProofs only [sSeq_app, sNil_app, seqO_nx, sAsg_app, eOp_app, eUn_app, eBor_app, eC_app, List.set_cons_succ, List.set_cons_zero, List.getElem?_cons_succ, List.getElem?_cons_zero, R.bind_ok, pMul_r sm10, ofO_some, pIdx10, h, decide_true, Bool.and_self, if_pos, pAdd, e2, thenO_ok, Res_nx, After_nx]
          refine ⟨_, rfl, fun j c' hj hc' => ?_⟩
          by_cases e : j = k
          · subst e
            rw [hd] at hc'
            cases hc'
            simp [h]
          · exact ih j c' (by omega) hc'
      · rintro e ⟨x, rfl, hd⟩
        have hd : digS (c :: r) = true := dig_all fun k d hk => hd k d (by
          have := (List.getElem?_eq_some_iff.mp hk).1
          simpa using this) hk
        have hw : wrN (c :: r) = true := by
          simp [wrN, hd]
          by_cases hc : c = 48
          · right; refine ⟨hc, ?_⟩
            have := hf2 hc
            exact List.eq_nil_of_length_eq_zero (by omega)
          · left; exact hc
        have h60 : r.length + 1 ≤ 60 := by omega
        have et : List.take (r.length + 1) (c :: r) = c :: r := List.take_of_length_le (by simp)
        simp -implicitDefEqProofs [hw, h60]
        omega
def okW (s : S) : Bool := decide (s.length ≤ 60) && wrN s
def wdP (s : S) : PV := if okW s = true then .int (valS s : Nat) else .non
theorem number2_wd (s : S) (h : s.length ≤ 1000000) : m_law_number_2 [.str s] = .ok (wdP s) := by
  rw [number2_eq s h]
  unfold wdP okW
  by_cases c : s.length ≤ 60 ∧ wrN s = true
  · rw [if_pos c, if_pos (by simp [c.1, c.2])]
  · rw [if_neg c, if_neg (by simpa using c)]
theorem read_wd (s : S) (h : s.length ≤ 1000000) : m_read_number [.str s] = if okW s = true then .ok (.int (valS s : Nat)) else .ex noT := by
  rw [read_str s h]
  unfold okW
  by_cases c : s.length ≤ 60 ∧ wrN s = true
  · rw [if_pos c, if_pos (by simp [c.1, c.2])]
  · rw [if_neg c, if_neg (by simpa using c)]
def wds (s : S) : List S := splitS 32 [] s
theorem splitS_sum (c : Nat) : ∀ (s acc : S), (∀ p ∈ splitS c acc s, p.length ≤ acc.length + s.length) ∧ (splitS c acc s).length ≤ s.length + 1
  | [], acc => by simp [splitS]
  | d :: r, acc => by
    unfold splitS
    split
    · obtain ⟨h1, h2⟩ := splitS_sum c r []
      refine ⟨fun p hp => ?_, by simp; omega⟩
      rcases List.mem_cons.mp hp with rfl | hp
      · simp
      · have := h1 p hp
        simp at this ⊢; omega
    · obtain ⟨h1, h2⟩ := splitS_sum c r (acc ++ [d])
      refine ⟨fun p hp => ?_, by simp; omega⟩
      have := h1 p hp
      simp at this ⊢; omega
theorem wds_len {s p : S} (h : p ∈ wds s) : p.length ≤ s.length := by
  have := (splitS_sum 32 s []).1 p h
  simpa using this
theorem wds_many (s : S) : (wds s).length ≤ s.length + 1 := (splitS_sum 32 s []).2
theorem seqR_wd : ∀ ws : List S, seqR (fun w => if okW w = true then R.ok (.int (valS w : Nat)) else .ex noT) ws = if ws.all okW = true then .ok (ws.map fun w => PV.int (valS w : Nat)) else .ex noT
  | [] => rfl
  | w :: ws => by
    rw [seqR_cons, seqR_wd ws, List.all_cons]
    cases h : okW w with
    | false => simp
    | true =>
      cases h2 : ws.all okW <;> simp
/-- what a text writes, as a row of numbers -/
def rdO (s : S) : Option (List Nat) := if s = [] then some [] else if (wds s).all okW = true then some ((wds s).map valS) else none
theorem read_numbers_str (s : S) (h : s.length ≤ 100000) : m_read_numbers [.str s] = match rdO s with | some ns => .ok (ns.map fun n : Nat => PV.int (n : Nat)) | none => .ex noT := by
  have h1 : s.length ≤ 1000000 := by omega
  have hc : ∀ e0 e1, compXK [1] (bName 1) (eC (.bl true)) (eCall m_read_number (aCons (eVar 1) aNil)) [e0, e1] ((wds s).map .str) = if (wds s).all okW = true then .ok ((wds s).map fun w => PV.int (valS w : Nat)) else .ex noT := by
    intro e0 e1
    have hw := wds_many s
    rw [← seqR_wd, compXK_of PV.str (fun w => if okW w = true then R.ok (PV.int (valS w : Nat)) else .ex noT) (wds s) (by omega) fun w hw => ⟨_, rfl, rfl, ?_⟩]
    have := read_wd w (by have := wds_len hw; omega)
    simp -implicitDefEqProofs [this]
  have hs : splitS 32 [] s = wds s := rfl
  refine f_of rfl ?_
  unfold b_read_numbers rdO
  by_cases c : s = []
  · subst c
    simp -implicitDefEqProofs
  · have hie : List.isEmpty s = false := by cases s <;> simp at c ⊢
    rw [if_neg c]
    by_cases d : (wds s).all okW = true
    · rw [if_pos d] at hc ⊢
      simp only [List.map_map]
      have e : (wds s).map ((fun n : Nat => PV.int (n : Nat)) ∘ valS) = (wds s).map fun w => PV.int (valS w : Nat) := rfl
      rw [e]
      generalize (wds s).map (fun w => PV.int (valS w : Nat)) = RS at *
      generalize wds s = ws at *
      simp -implicitDefEqProofs [h1, hs, hc, hie]
    · rw [if_neg d] at hc ⊢
      generalize wds s = ws at *
      simp -implicitDefEqProofs [h1, hs, hc, hie]
theorem read_numbers_odd (p : PV) (h : tyP p = true) (hs : ∀ s, p ≠ .str s) : m_read_numbers [p] = .ex noT := by
  refine f_of rfl ?_
  unfold b_read_numbers
  cases p <;> simp -implicitDefEqProofs [noT] at h hs ⊢
end LK

set_option linter.all false
set_option maxRecDepth 100000
namespace LK
open JP
mutual
theorem eqP_self : ∀ x : PV, datP x = true → eqP x x = true
  | .non, _ => by simp [eqP]
  | .bl b, _ => by simp [eqP]
  | .int i, _ => by simp [eqP]
  | .str s, _ => by simp [eqP]
  | .lst xs, h => by simp only [eqP]; exact eqPs_self xs (by simpa using h)
  | .tup xs, h => by simp only [eqP]; exact eqPs_self xs (by simpa using h)
  | .dct .., h => by cases h
  | .ob .., h => by cases h
  | .scr .., h => by cases h
theorem eqPs_self : ∀ xs : List PV, datPs xs = true → eqPs xs xs = true
  | [], _ => by simp [eqPs]
  | x :: xs, h => by
    simp only [datPs, Bool.and_eq_true] at h
    simp [eqPs, eqP_self x h.1, eqPs_self xs h.2]
end
theorem at_all {xs : List PV} {d : Int} (P : PV → Prop) (h0 : 0 ≤ d) (h1 : d < xs.length) (hP : ∀ x ∈ xs, P x) : ∃ x, atN xs d = some x ∧ P x := by
  have hj : d.toNat < xs.length := by omega
  rw [show atN xs d = xs[d.toNat]? by simp [atN, h0], List.getElem?_eq_getElem hj]
  exact ⟨_, rfl, hP _ (List.getElem_mem hj)⟩
end LK

set_option linter.all false
set_option maxRecDepth 100000
namespace LK
open JP
def rdP (s : S) : PV := match rdO s with | some ns => .lst (ns.map fun n : Nat => PV.int (n : Nat)) | none => .non
theorem ints_dat (ns : List Nat) : datPs (ns.map fun n : Nat => PV.int (n : Nat)) = true := datPs_map _ (fun _ => rfl) _
theorem ints_dep (ns : List Nat) : depPs (ns.map fun n : Nat => PV.int (n : Nat)) ≤ 63 := Nat.le_trans (depPs_map _ 0 (fun _ => Nat.le_refl _) _) (by omega)
theorem due85 (s : S) (h : s.length ≤ 100000) : m_law_due [.str s] = .ok (rdP s) := by
  have h1 : s.length ≤ 1000000 := by omega
  have hw := wds_many s
  have hc : ∀ e0 e1 e2, compK [2] (bName 2) (eC (.bl true)) (eCall m_law_number_2 (aCons (eVar 2) aNil)) [e0, e1, e2] ((wds s).map .str) = .ok ((wds s).map wdP) := by
    intro e0 e1 e2
    rw [compK_all PV.str wdP (wds s) (by omega) fun w hw => ⟨_, rfl, rfl, ?_⟩]
    have := number2_wd w (by have := wds_len hw; omega)
    simp -implicitDefEqProofs [this]
  have hs : splitS 32 [] s = wds s := rfl
  have d1 : datPs ((wds s).map wdP) = true := datPs_map _ (fun w => by unfold wdP; split <;> rfl) _
  have d2 : depPs ((wds s).map wdP) ≤ 63 := Nat.le_trans (depPs_map _ 0 (fun w => by unfold wdP; split <;> simp) _) (by omega)
  have d3 : ((wds s).map wdP).any (fun z => eqP z .non) = !(wds s).all okW := by
    generalize wds s = ws
    induction ws with
    | nil => rfl
    | cons w ws ih =>
      rw [List.map_cons, List.any_cons, List.all_cons, ih]
      cases hk : okW w <;> simp [wdP, hk]
  have inl : pInL .non (.lst ((wds s).map wdP)) = some (.bl (!(wds s).all okW)) := by
    rw [pInL_0]
    generalize (wds s).map wdP = X at *
    simp [d1, d2, d3]
  refine m_of rfl ?_
  unfold b_law_due rdP rdO
  by_cases c : s = []
  · subst c
    simp -implicitDefEqProofs
  · have hie : List.isEmpty s = false := by cases s <;> simp at c ⊢
    rw [if_neg c]
    by_cases d : (wds s).all okW = true
    · rw [d] at inl
      rw [if_pos d]
      have e : (wds s).map wdP = ((wds s).map valS).map fun n : Nat => PV.int (n : Nat) := by
        rw [List.map_map]
        refine List.map_congr_left fun w hw => ?_
        have := List.all_eq_true.mp d w hw
        simp [wdP, this]
      rw [e] at inl hc
      dsimp only
      generalize ((wds s).map valS).map (fun n : Nat => PV.int (n : Nat)) = RS at *
      generalize wds s = ws at *
      simp -implicitDefEqProofs [h1, hs, hc, hie, inl, -pInL_0]
    · rw [Bool.not_eq_true] at d
      rw [d] at inl
      rw [if_neg (by simp [d])]
      dsimp only
      generalize (wds s).map wdP = RS at *
      generalize wds s = ws at *
      simp -implicitDefEqProofs [h1, hs, hc, hie, inl, -pInL_0]
theorem due85_odd (p : PV) (h : tyP p = true) (hs : ∀ s, p ≠ .str s) : m_law_due [p] = .ok .non := by
  refine m_of rfl ?_
  unfold b_law_due
  cases p <;> simp -implicitDefEqProofs at h hs ⊢
def tRd (p : PV) : PV := match p with | .lst xs => .tup [.str [114, 101, 97, 100], .lst xs] | _ => .tup [.str [110, 111], .int 0]
theorem read85_of (p : PV) {ns : List Nat} (h : m_read_numbers [p] = .ok (ns.map fun n : Nat => PV.int (n : Nat))) : m_law_read [p] = .ok (.tup [.str [114, 101, 97, 100], .lst (ns.map fun n : Nat => PV.int (n : Nat))]) := by
  refine m_of rfl ?_
  unfold b_law_read
  simp -implicitDefEqProofs [h]
theorem read85_no (p : PV) (h : m_read_numbers [p] = .ex noT) : m_law_read [p] = .ok (.tup [.str [110, 111], .int 0]) := by
  refine m_of rfl ?_
  unfold b_law_read
  simp -implicitDefEqProofs [h, noT, List.lookup]
theorem right85_no (p : PV) (h1 : m_law_due [p] = .ok .non) (h2 : m_law_read [p] = .ok (.tup [.str [110, 111], .int 0])) : m_law_right_2 [p] = .ok (.bl true) := by
  refine m_of rfl ?_
  unfold b_law_right_2
  simp -implicitDefEqProofs [h1, h2]
theorem right85_yes (p : PV) {ns : List Nat} (h1 : m_law_due [p] = .ok (.lst (ns.map fun n : Nat => PV.int (n : Nat)))) (h2 : m_law_read [p] = .ok (.tup [.str [114, 101, 97, 100], .lst (ns.map fun n : Nat => PV.int (n : Nat))])) : m_law_right_2 [p] = .ok (.bl true) := by
  refine m_fin (fun r => r = _) rfl (by simp) fun Z hZ hb => ?_
  unfold b_law_right_2
  have d1 := ints_dat ns
  have d2 := ints_dep ns
  have d3 := eqPs_self _ d1
  have fin := hZ (.rt (.bl true)) rfl
  have fin2 : pEq (.lst (ns.map fun n : Nat => PV.int (n : Nat))) (.lst (ns.map fun n : Nat => PV.int (n : Nat))) = some (.bl true) := by
    generalize (ns.map fun n : Nat => PV.int (n : Nat)) = NS at *
    simp [d1, d2, d3]
  simp -implicitDefEqProofs [h1, h2]
  refine for_m (fun n : Nat => PV.int (n : Nat)) ns (fun pre e => ∃ x2, e = [.v p, .v (.lst (ns.map fun n : Nat => PV.int (n : Nat))), x2, .v (.str [114, 101, 97, 100]), .v (.lst (ns.map fun n : Nat => PV.int (n : Nat)))]) (by simp) ⟨_, rfl⟩ ?_ ?_
  · rintro pre n post e he ⟨x2, rfl⟩
    refine ⟨_, rfl, fun J B Z' hJ hB hZ' hb' => ?_⟩
    have fin := hJ [.v p, .v (.lst (ns.map fun n : Nat => PV.int (n : Nat))), .v (.int (n : Nat)), .v (.str [114, 101, 97, 100]), .v (.lst (ns.map fun n : Nat => PV.int (n : Nat)))] ⟨_, rfl⟩
    generalize (ns.map fun n : Nat => PV.int (n : Nat)) = NS at *
    simp -implicitDefEqProofs
    exact fin
  · rintro e ⟨x2, rfl⟩
    generalize (ns.map fun n : Nat => PV.int (n : Nat)) = NS at *
    simp -implicitDefEqProofs [fin2, -pEq]
    exact fin
theorem right85_str (s : S) (h : s.length ≤ 100000) : m_law_right_2 [.str s] = .ok (.bl true) := by
  have h1 := due85 s h
  have h2 := read_numbers_str s h
  unfold rdP at h1
  cases e : rdO s with
  | none =>
    rw [e] at h1 h2
    exact right85_no _ h1 (read85_no _ h2)
  | some ns =>
    rw [e] at h1 h2
    exact right85_yes _ h1 (read85_of _ h2)
theorem right85_odd (p : PV) (h : tyP p = true) (hs : ∀ s, p ≠ .str s) : m_law_right_2 [p] = .ok (.bl true) :=
  right85_no _ (due85_odd p h hs) (read85_no _ (read_numbers_odd p h hs))
theorem drawn85 (d : Int) (h0 : 0 ≤ d) (h1 : d < 10 ^ 60) (m z : Nat) (hm : m < 7) (hz : z < 60) : ∃ n : Nat, okN n ∧ m_law_drawn_2 [.int d, .int (m : Nat), .int (z : Nat)] = .ok (.int (n : Nat)) := by
  have w60 : ∀ x : Int, 0 ≤ x → x < 10 ^ 61 → wideI x = true := fun x a b => wideI_of (by
    have : x.natAbs < 10 ^ 61 := by omega
    exact Nat.lt_trans this (by decide))
  refine m_fin (fun r => ∃ n : Nat, okN n ∧ r = .ok (.int (n : Nat))) rfl (by rintro ⟨n, _, h⟩; cases h) fun Z hZ hb => ?_
  unfold b_law_drawn_2
  have sm : smallI 10 = true := by decide
  have hp : pPow (.int 10) (.int 60) = some (.int (10 ^ 60)) := by
    rw [pPow_0, sm]; rfl
  have pp : (0 : Int) < 10 ^ 60 := by decide
  generalize hP : (10 : Int) ^ 60 = P at *
  simp -implicitDefEqProofs
  refine for_r 0 z (fun k e => ∃ x5, e = [.v (.int d), .v (.int (m : Nat)), .v (.int (z : Nat)), .v (.int (10 ^ (k + 1))), .v (.int d), x5]) ?_ ⟨_, rfl⟩ ?_ ?_
  · have : (z : Int) < 4611686018427387904 := by omega
    have : (-4611686018427387904 : Int) ≤ z := by omega
    simp -implicitDefEqProofs [*]
  · rintro k e hk ⟨x5, rfl⟩
    refine ⟨_, rfl, fun J B Z' hJ hB hZ' hb' => ?_⟩
    have e1 : (10 : Int) ^ (k + 1 + 1) = 10 ^ (k + 1) * 10 := Int.pow_succ ..
    have fin := hJ [.v (.int d), .v (.int (m : Nat)), .v (.int (z : Nat)), .v (.int (10 ^ (k + 1 + 1))), .v (.int d), .v (.int (0 + (k : Nat)))] ⟨_, rfl⟩
    rw [e1] at fin
    generalize (10 : Int) ^ (k + 1) = Q at *
    simp -implicitDefEqProofs [sm] at fin ⊢
    exact fin
  · rintro e ⟨x5, rfl⟩
    have q0 : (0 : Int) < 10 ^ (z + 1) := Int.pow_pos (by decide)
    have q1 : (10 : Int) ^ (z + 1) ≤ P := by
      rw [← hP]
      have : (10 : Nat) ^ (z + 1) ≤ 10 ^ 60 := Nat.pow_le_pow_right (by decide) (by omega)
      have h2 : ((10 ^ (z + 1) : Nat) : Int) ≤ ((10 ^ 60 : Nat) : Int) := Int.ofNat_le.mpr this
      simpa using h2
    generalize (10 : Int) ^ (z + 1) = Q at *
    have wP : ∀ x : Int, 0 ≤ x → x < P + 7 → wideI x = true := fun x a b => w60 x a (by
      have : P + 7 ≤ 10 ^ 61 := by rw [← hP]; decide
      omega)
    refine for_r 0 m (fun k e => ∃ (y : Int) (x5 : Sl), 0 ≤ y ∧ y < P ∧ e = [.v (.int d), .v (.int (m : Nat)), .v (.int (z : Nat)), .v (.int Q), .v (.int y), x5]) ?_ ⟨d, _, h0, h1, rfl⟩ ?_ ?_
    · have : (m : Int) < 4611686018427387904 := by omega
      have : (-4611686018427387904 : Int) ≤ m := by omega
      simp -implicitDefEqProofs [*]
    · rintro k e hk ⟨y, x5, y0, y1, rfl⟩
      refine ⟨_, rfl, fun J B Z' hJ hB hZ' hb' => ?_⟩
      have w1 := wP y y0 (by omega)
      have w2 := wP (d + (0 + (k : Nat))) (by omega) (by omega)
      have fin := hJ [.v (.int d), .v (.int (m : Nat)), .v (.int (z : Nat)), .v (.int Q), .v (.int (y * (d + (0 + (k : Nat))) % P)), .v (.int (0 + (k : Nat)))] ⟨_, _, Int.emod_nonneg _ (by omega), Int.emod_lt_of_pos _ pp, rfl⟩
      generalize hD : d + (0 + (k : Nat)) = D at *
      have hD' : d + (k : Nat) = D := by omega
      simp -implicitDefEqProofs [w1, w2, hp, pp, hD', -pPow_0] at fin ⊢
      exact fin
    · rintro e ⟨y, x5, y0, y1, rfl⟩
      have r0 := Int.emod_nonneg y (show Q ≠ 0 by omega)
      have r1 := Int.emod_lt_of_pos y q0
      simp -implicitDefEqProofs [q0]
      refine hZ _ ⟨(y % Q).toNat, ?_, ?_⟩
      · have : (y % Q).toNat < P.toNat := by omega
        rw [← hP] at this
        exact okN_of this
      · show R.ok (PV.int (y % Q)) = _
        congr 2
        omega
theorem mod_nat85 (d : Int) (h : 0 ≤ d) (n : Nat) (hn : 0 < n) : ∃ k : Nat, d % (n : Int) = (k : Int) ∧ k < n := by
  have a1 := Int.emod_nonneg d (show (n : Int) ≠ 0 by omega)
  have a2 := Int.emod_lt_of_pos d (show (0 : Int) < (n : Int) by omega)
  exact ⟨(d % (n : Int)).toNat, by omega, by omega⟩
theorem str_eq85 (n : Nat) (h : okN n) : pStr (.int (n : Nat)) = some (.str (numD n)) := by
  have := h.2
  simp [this]
theorem nums85 (ns : List Nat) (h : ∀ n ∈ ns, okN n) (hl : ns.length ≤ 4) : m_read_numbers [.str (nstr ns)] = .ok (ns.map fun n : Nat => PV.int (n : Nat)) := by
  cases ns with
  | nil =>
    rw [read_numbers_str _ (by simp [nstr, joinS])]
    rfl
  | cons n ns => exact read_numbers_eq n ns h (by simp at hl; omega)
theorem law_k85_true (ns0 : List Int) (h : ns0.length ≤ 63) : m_law_k85 [.scr (ns0.map .int)] = .ok (.bl true) := by
  refine m_fin (fun r => r = .ok (.bl true)) rfl (by simp) fun Z hZ hb => ?_
  unfold b_law_k85
  have l0 : ns0.length ≤ 1000000 := by omega
  have cutc : cutN (ns0.map PV.int) none (some 39) = (ns0.take 39).map .int := by
    rw [List.map_take]; exact cutN_to _ 39
  have lxs : (ns0.take 39).length ≤ 39 := by simp; omega
  generalize ns0.take 39 = cells at *
  obtain ⟨SG, hSG⟩ : ∃ SG : S, SG = [48, 49, 50, 51, 52, 53, 54, 55, 56, 57, 32, 10, 9, 45, 43, 95, 46, 44, 97, 98, 99, 120, 121, 122, 65, 66, 67, 88, 89, 90, 33, 34, 35, 36, 38, 39, 40, 41, 42, 47, 58, 59, 60, 61, 62, 63, 64, 91, 92, 93, 94, 96, 123, 124, 125, 126] := ⟨_, rfl⟩
  have lSG : SG.length = 56 := by rw [hSG]; rfl
  rw [← hSG]
  clear hSG
  simp -implicitDefEqProofs
  refine for_e PV.int (0 :: cells) (fun pre e => ∃ x2 x3 x4 x5 x6 x7 x8 x9 x10 x11 x12 x13 x14 x15 : Sl, e = [.v (.scr (ns0.map .int)), .v (.str SG), x2, x3, x4, x5, x6, x7, x8, x9, x10, x11, x12, x13, x14, x15]) ?_ ⟨_, _, _, _, _, _, _, _, _, _, _, _, _, _, rfl⟩ ?_ ?_
  · have l8 : 1 + cells.length ≤ 1000000 := by omega
    simp -implicitDefEqProofs [l0, cutc, -cutN_lit, -cutN_litf, -cutN_to, l8]
  · rintro pre cell post e he ⟨x2, x3, x4, x5, x6, x7, x8, x9, x10, x11, x12, x13, x14, x15, rfl⟩
    refine ⟨_, rfl, fun J B Z' hJ hB hZ' hb' => ?_⟩
    have hpre : pre.length ≤ 1000 := by
      have := congrArg List.length he
      simp at this; omega
    obtain ⟨ds, f1, hl, hd⟩ := nums cell (8500 + (pre.length : Nat)) ([5, 250, 61, 3, 10] ++ (List.replicate 4 [10 ^ 60, 7, 60]).flatten) (by omega) (by
      intro z hz
      simp only [List.replicate, List.flatten_cons, List.flatten_nil, List.append_nil, List.mem_append, List.mem_cons, List.not_mem_nil, or_false] at hz
      omega) (by decide)
    have hl17 : ds.length = 17 := hl
    obtain ⟨d0, g0, r0⟩ := hd 0 5 rfl
    obtain ⟨d1, g1, r1⟩ := hd 1 250 rfl
    obtain ⟨d2, g2, r2⟩ := hd 2 61 rfl
    obtain ⟨d3, g3, r3⟩ := hd 3 3 rfl
    obtain ⟨d4, g4, r4⟩ := hd 4 10 rfl
    obtain ⟨m0, rfl⟩ : ∃ q : Nat, d0 = (q : Int) := ⟨d0.toNat, by omega⟩
    have b0 : pIx (.lst (ds.map PV.int)) (.int 0) = some (.int (m0 : Nat)) := by simp [g0]
    have b1 : pIx (.lst (ds.map PV.int)) (.int 1) = some (.int d1) := by simp [g1]
    have b2 : pIx (.lst (ds.map PV.int)) (.int 2) = some (.int d2) := by simp [g2]
    have b3 : pIx (.lst (ds.map PV.int)) (.int 3) = some (.int d3) := by simp [g3]
    have b4 : pIx (.lst (ds.map PV.int)) (.int 4) = some (.int d4) := by simp [g4]
    have trip : ∀ k : Nat, k < 4 → ∃ (x y z : Int), 0 ≤ x ∧ x < 10 ^ 60 ∧ 0 ≤ y ∧ y < 7 ∧ 0 ≤ z ∧ z < 60 ∧ pIx (.lst (ds.map PV.int)) (.int (5 + 3 * (k : Nat))) = some (.int x) ∧ pIx (.lst (ds.map PV.int)) (.int (6 + 3 * (k : Nat))) = some (.int y) ∧ pIx (.lst (ds.map PV.int)) (.int (7 + 3 * (k : Nat))) = some (.int z) := by
      intro k hk
      obtain ⟨x, gx, rx⟩ := hd (5 + 3 * k) (10 ^ 60) (by
        obtain rfl | rfl | rfl | rfl : k = 0 ∨ k = 1 ∨ k = 2 ∨ k = 3 := by omega
        all_goals rfl)
      obtain ⟨y, gy, ry⟩ := hd (6 + 3 * k) 7 (by
        obtain rfl | rfl | rfl | rfl : k = 0 ∨ k = 1 ∨ k = 2 ∨ k = 3 := by omega
        all_goals rfl)
      obtain ⟨z, gz, rz⟩ := hd (7 + 3 * k) 60 (by
        obtain rfl | rfl | rfl | rfl : k = 0 ∨ k = 1 ∨ k = 2 ∨ k = 3 := by omega
        all_goals rfl)
      refine ⟨x, y, z, rx.1, rx.2, ry.1, ry.2, rz.1, rz.2, ?_, ?_, ?_⟩
      · rw [pIx_0, show (5 : Int) + 3 * (k : Nat) = ((5 + 3 * k : Nat) : Int) by omega, atN_nat, List.getElem?_map, gx]; rfl
      · rw [pIx_0, show (6 : Int) + 3 * (k : Nat) = ((6 + 3 * k : Nat) : Int) by omega, atN_nat, List.getElem?_map, gy]; rfl
      · rw [pIx_0, show (7 : Int) + 3 * (k : Nat) = ((7 + 3 * k : Nat) : Int) by omega, atN_nat, List.getElem?_map, gz]; rfl
    have pw : pPow (.int 10) (.int 60) = some (.int (10 ^ 60)) := by
      have sm : smallI 10 = true := by decide
      rw [pPow_0, sm]; rfl
    have f2 : m_law_numbers [.int cell, .int (8500 + (pre.length : Nat)), .lst ([PV.int 5, .int 250, .int 61, .int 3, .int 10] ++ (List.replicate 4 [PV.int (10 ^ 60), .int 7, .int 60]).flatten)] = .ok (ds.map .int) := f1
    have cat0 : lCat (.lst [PV.int 5, .int 250, .int 61, .int 3, .int 10]) (.lst (List.replicate 4 [PV.int (10 ^ 60), .int 7, .int 60]).flatten) = some ([PV.int 5, .int 250, .int 61, .int 3, .int 10] ++ (List.replicate 4 [PV.int (10 ^ 60), .int 7, .int 60]).flatten) := by simp
    have rep0 : lRep (.lst [PV.int (10 ^ 60), .int 7, .int 60]) (.int 4) = some (List.replicate 4 [PV.int (10 ^ 60), .int 7, .int 60]).flatten := by simp
    clear hd f1
    generalize hDS : ds.map PV.int = DS at *
    generalize [PV.int 5, .int 250, .int 61, .int 3, .int 10] ++ (List.replicate 4 [PV.int (10 ^ 60), .int 7, .int 60]).flatten = A1 at *
    generalize (List.replicate 4 [PV.int (10 ^ 60), .int 7, .int 60]).flatten = A2 at *
    generalize hP : (10 : Int) ^ 60 = P at *
    simp -implicitDefEqProofs [pw, -pPow_0, rep0, -lRep_0, cat0, -lCat_0, f2]
    refine for_r 0 m0 (fun k e => ∃ (ns : List Nat) (x6 : Sl), ns.length = k ∧ (∀ n ∈ ns, okN n) ∧ e = [.v (.scr (ns0.map .int)), .v (.str SG), .v (.int (pre.length : Nat)), .v (.int cell), .v (.lst DS), .o (ns.map fun n : Nat => PV.int (n : Nat)), x6, x7, x8, x9, x10, x11, x12, x13, x14, x15]) ?_ ⟨[], _, rfl, by simp, rfl⟩ ?_ ?_
    · have a1 : (m0 : Int) < 4611686018427387904 := by omega
      have a2 : (-4611686018427387904 : Int) ≤ m0 := by omega
      simp -implicitDefEqProofs [b0, -pIx_0, a1, a2]
    · rintro k e hk ⟨ns, x6, hns, hok, rfl⟩
      refine ⟨_, rfl, fun J2 B2 Z2 hJ2 hB2 hZ2 hb2 => ?_⟩
      obtain ⟨x, y, z, hx0, hx1, hy0, hy1, hz0, hz1, i1, i2, i3⟩ := trip k (by omega)
      obtain ⟨yn, rfl⟩ : ∃ q : Nat, y = (q : Int) := ⟨y.toNat, by omega⟩
      obtain ⟨zn, rfl⟩ : ∃ q : Nat, z = (q : Int) := ⟨z.toNat, by omega⟩
      obtain ⟨n, okn, dr⟩ := drawn85 x hx0 (by rw [hP]; exact hx1) yn zn (by omega) (by omega)
      have lns : (ns.map fun n : Nat => PV.int (n : Nat)).length < 1000000 := by simp; omega
      have fin := hJ2 [.v (.scr (ns0.map .int)), .v (.str SG), .v (.int (pre.length : Nat)), .v (.int cell), .v (.lst DS), .o ((ns ++ [n]).map fun n : Nat => PV.int (n : Nat)), .v (.int (0 + (k : Nat))), x7, x8, x9, x10, x11, x12, x13, x14, x15] ⟨ns ++ [n], _, by simp [hns], fun q hq => by
        rcases List.mem_append.mp hq with hq | hq
        · exact hok q hq
        · rw [List.mem_singleton.mp hq]; exact okn, rfl⟩
      rw [List.map_append] at fin
      generalize (ns.map fun n : Nat => PV.int (n : Nat)) = NS at *
      have sm3 : smallI 3 = true := by decide
      simp -implicitDefEqProofs [i1, i2, i3, -pIx_0, dr, lns, sm3] at fin ⊢
      exact fin
    · rintro e ⟨ns, x6, hns, hok, rfl⟩
      have hns4 : ns.length ≤ 4 := by omega
      have sh := show_numbers_eq ns hok (by omega)
      have rdn := nums85 ns hok hns4
      have ltx := nstr_len ns hok
      have ltx2 : (nstr ns).length ≤ 300 := by omega
      have jn := join_sep 32 (ns.map numD) (by
        have := lenS_le 60 (ns.map numD) (fun y hy => by
          obtain ⟨n, hn, rfl⟩ := List.mem_map.mp hy
          exact numD_len60 (hok n hn))
        rw [List.length_map] at this ⊢
        omega)
      have hc : ∀ y15 : Sl, ∀ y6 y9 y10 y11 y12 y13 y14 : Sl, ∀ q7 q8, compK [15] (bName 15) (eC (.bl true)) (eCB (on1 pStr) (aCons (eBor 15) aNil)) [.v (.scr (ns0.map .int)), .v (.str SG), .v (.int (pre.length : Nat)), .v (.int cell), .v (.lst DS), .o (ns.map fun n : Nat => PV.int (n : Nat)), y6, q7, q8, y9, y10, y11, y12, y13, y14, y15] (ns.map fun n : Nat => PV.int (n : Nat)) = .ok ((ns.map numD).map .str) := by
        intro y15 y6 y9 y10 y11 y12 y13 y14 q7 q8
        rw [compK_all (fun n : Nat => PV.int (n : Nat)) (fun n => PV.str (numD n)) ns (by omega) fun n hn => ⟨_, rfl, rfl, ?_⟩]
        · rw [List.map_map]; rfl
        · have := str_eq85 n (hok n hn)
          simp -implicitDefEqProofs [this, -pStr_int]
      have jn : pJoin (.str [32]) (.lst ((ns.map numD).map .str)) = some (.str (nstr ns)) := jn
      have ne0 : pNe (.lst (ns.map fun n : Nat => PV.int (n : Nat))) (.lst (ns.map fun n : Nat => PV.int (n : Nat))) = some (.bl false) := by
        have w1 := ints_dat ns
        have w2 := ints_dep ns
        have w3 := eqPs_self _ w1
        generalize (ns.map fun n : Nat => PV.int (n : Nat)) = NS at *
        simp [w1, w2, w3]
      have ne1 : pNe (.str (nstr ns)) (.str (nstr ns)) = some (.bl false) := by simp
      have lns : (ns.map fun n : Nat => PV.int (n : Nat)).length < 1000000 := by simp; omega
      obtain ⟨sp, hsp, hspl⟩ := mod_nat85 d1 r1.1 ((nstr ns).length + 1) (by omega)
      rw [Int.natCast_add, Int.natCast_one] at hsp
      obtain ⟨si, hsi, hsil⟩ := mod_nat85 d2 r2.1 56 (by omega)
      have hsi : d2 % 56 = (si : Int) := hsi
      obtain ⟨sc, hsc⟩ : ∃ c, SG[si]? = some c := ⟨_, List.getElem?_eq_getElem (by omega)⟩
      have ixs : pIx (.str SG) (.int (si : Nat)) = some (.str [sc]) := by
        have l6 : SG.length ≤ 1000000 := by omega
        have l7 := atN_nat SG si
        rw [hsc] at l7
        simp [l6, l7]
      generalize hTX : nstr ns = tx at *
      have t1 : cutN tx none (some (sp : Int)) = tx.take sp := cutN_to _ _
      have t2 : cutN tx (some (sp : Int)) none = tx.drop sp := cutN_from _ _
      have t3 : cutN tx (some ((sp : Int) + 1)) none = tx.drop (sp + 1) := cutN_from tx (sp + 1)
      have l1 : (tx.take sp).length ≤ 300 := by simp; omega
      have l2 : (tx.drop sp).length ≤ 300 := by simp; omega
      have l3 : (tx.drop (sp + 1)).length ≤ 300 := by simp; omega
      obtain ⟨ob, hob, hobP⟩ : ∃ o, atN [PV.non, .bl true, .int 0, .lst [.str tx], .tup [.str tx], .dct false [], .lst [], .str [32], .str [48, 32], .str (List.replicate 61 [48]).flatten] d4 = some o ∧ m_law_right_2 [o] = .ok (.bl true) := by
        refine at_all (fun o => m_law_right_2 [o] = .ok (.bl true)) r4.1 r4.2 fun x hx => ?_
        simp only [List.mem_cons, List.not_mem_nil, or_false] at hx
        rcases hx with rfl | rfl | rfl | rfl | rfl | rfl | rfl | rfl | rfl | rfl
        · exact right85_odd _ rfl (fun s e => by cases e)
        · exact right85_odd _ rfl (fun s e => by cases e)
        · exact right85_odd _ rfl (fun s e => by cases e)
        · exact right85_odd _ rfl (fun s e => by cases e)
        · exact right85_odd _ rfl (fun s e => by cases e)
        · exact right85_odd _ rfl (fun s e => by cases e)
        · exact right85_odd _ rfl (fun s e => by cases e)
        · exact right85_str _ (by simp)
        · exact right85_str _ (by simp)
        · exact right85_str _ (by simp)
      generalize hA : tx.take sp = TA at *
      generalize hB : tx.drop sp = TB at *
      generalize hC : tx.drop (sp + 1) = TC at *
      obtain ⟨be, hbe, hbeP⟩ : ∃ o, atN [PV.str (TA ++ sc :: TB), .str (TA ++ TC), .str (TA ++ sc :: TC)] d3 = some o ∧ m_law_right_2 [o] = .ok (.bl true) := by
        refine at_all (fun o => m_law_right_2 [o] = .ok (.bl true)) r3.1 r3.2 fun x hx => ?_
        simp only [List.mem_cons, List.not_mem_nil, or_false] at hx
        rcases hx with rfl | rfl | rfl
        · exact right85_str _ (by simp; omega)
        · exact right85_str _ (by simp; omega)
        · exact right85_str _ (by simp; omega)
      have rt := right85_str tx (by omega)
      have rt1 := right85_str (tx ++ [32]) (by simp; omega)
      have rt2 := right85_str (tx ++ [10]) (by simp; omega)
      have rt3 := right85_str (32 :: tx) (by simp; omega)
      have ltx6 : tx.length ≤ 1000000 := by omega
      have ltx7 : tx.length + 1 ≤ 1000000 := by omega
      have pos : (0 : Int) < (tx.length : Int) + 1 := by omega
      have lSG6 : (56 : Nat) ≤ 1000000 := by decide
      have mul61 : pMulS (.str [48]) (.int 61) = some (.str (List.replicate 61 [48]).flatten) := by rfl
      generalize (List.replicate 61 [48]).flatten = Z61 at *
      generalize (ns.map fun n : Nat => PV.int (n : Nat)) = NS at *
      generalize ((ns.map numD).map PV.str) = KS at *
      simp -implicitDefEqProofs [sh, ne0, ne1, -pNe, hc, jn, -pJoin_0, b1, hsp, -pIx_0, ltx6, pos]
      have c1 : TA.length + 1 ≤ 1000000 := by omega
      have c2 : TA.length + 1 + TB.length ≤ 1000000 := by omega
      have c3 : TA.length + TC.length ≤ 1000000 := by omega
      have c4 : TA.length + 1 + TC.length ≤ 1000000 := by omega
      have c5 : 1 + tx.length ≤ 1000000 := by omega
      have hob : pIx (.lst [PV.non, .bl true, .int 0, .lst [.str tx], .tup [.str tx], .dct false [], .lst [], .str [32], .str [48, 32], .str Z61]) (.int d4) = some ob := hob
      have hbe : pIx (.lst [PV.str (TA ++ sc :: TB), .str (TA ++ TC), .str (TA ++ sc :: TC)]) (.int d3) = some be := hbe
      simp -implicitDefEqProofs [b2, lSG, hsi, ixs, -pIx_0, -pIx_3, ltx6, t1, t2, t3, -cutN_to, -cutN_from, -cutN_lit, -cutN_litf, c1, c2, c3, c4, mul61, b4, hob]
      refine for_m (fun p : PV => p) [.str tx, be, .str (tx ++ [32]), .str (tx ++ [10]), ob, .str (32 :: tx), .str tx] (fun pre' e => ∃ x13, e = [.v (.scr (ns0.map .int)), .v (.str SG), .v (.int (pre.length : Nat)), .v (.int cell), .v (.lst DS), .o NS, x6, .v (.lst NS), .v (.str tx), .v (.int (sp : Nat)), .v (.str [sc]), .v (.lst [.str (TA ++ sc :: TB), .str (TA ++ TC), .str (TA ++ sc :: TC)]), .v ob, x13, x14, x15]) ?_ ⟨_, rfl⟩ ?_ ?_
      · simp -implicitDefEqProofs [b3, hbe, -pIx_0, ltx6, ltx7, c5]
      · rintro pre' x post' e he' ⟨x13, rfl⟩
        refine ⟨_, rfl, fun J2 B2 Z2 hJ2 hB2 hZ2 hb2 => ?_⟩
        have fin := hJ2 [.v (.scr (ns0.map .int)), .v (.str SG), .v (.int (pre.length : Nat)), .v (.int cell), .v (.lst DS), .o NS, x6, .v (.lst NS), .v (.str tx), .v (.int (sp : Nat)), .v (.str [sc]), .v (.lst [.str (TA ++ sc :: TB), .str (TA ++ TC), .str (TA ++ sc :: TC)]), .v ob, .v x, x14, x15] ⟨_, rfl⟩
        have hx : m_law_right_2 [x] = .ok (.bl true) := by
          have : x ∈ [.str tx, be, .str (tx ++ [32]), .str (tx ++ [10]), ob, .str (32 :: tx), .str tx] := by rw [he']; simp
          simp only [List.mem_cons, List.not_mem_nil, or_false] at this
          rcases this with rfl | rfl | rfl | rfl | rfl | rfl | rfl
          · exact rt
          · exact hbeP
          · exact rt1
          · exact rt2
          · exact hobP
          · exact rt3
          · exact rt
        simp -implicitDefEqProofs [hx]
        exact fin
      · rintro e ⟨x13, rfl⟩
        have fin := fun q => hJ [.v (.scr (ns0.map .int)), .v (.str SG), .v (.int (pre.length : Nat)), .v (.int cell), .v (.lst DS), .o NS, x6, .v (.lst NS), .v (.str tx), .v (.int (sp : Nat)), .v (.str [sc]), .v (.lst [.str (TA ++ sc :: TB), .str (TA ++ TC), .str (TA ++ sc :: TC)]), .v ob, x13, q, x15] ⟨_, _, _, _, _, _, _, _, _, _, _, _, _, _, rfl⟩
        simp -implicitDefEqProofs [rdn, lns, ne0, -pNe]
        exact fin _
  · rintro e ⟨x2, x3, x4, x5, x6, x7, x8, x9, x10, x11, x12, x13, x14, x15, rfl⟩
    simp -implicitDefEqProofs
    exact hZ _ rfl
end LK

set_option Elab.async false
set_option linter.all false
set_option maxRecDepth 100000
namespace LK
open PySem L2 JP
def top (i : Nat) : Stmt := PySem.Challenge.pw_joinranks_k85_rows_of_numbers.main.body.getD i (.Pass ⟨0, 0, 0, 0⟩)
structure Txt (K : PySem.W.Frag) (mg : Str → Option Value) : Prop where
  n_bool : mg "bool" = none
  n_enumerate : mg "enumerate" = none
  n_int : mg "int" = none
  n_isinstance : mg "isinstance" = none
  n_len : mg "len" = none
  n_list : mg "list" = none
  n_max : mg "max" = none
  n_range : mg "range" = none
  n_str : mg "str" = none
  c_FIGURES : ∃ t, mg "FIGURES" = some (.str (tx [48, 49, 50, 51, 52, 53, 54, 55, 56, 57]) t)
  c_MOST_FIGURES : ∃ t, mg "MOST_FIGURES" = some (.int 60 t)
section
variable {P : Program} {w : World} {K : PySem.W.Frag} {mg : Str → Option Value} {base : Heap} {O : ObS}
abbrev s_NoText___init__ : Stmt := inClass (top 2) 0
theorem sc_NoText___init__ : FnScope ["self", "row"] ["self", "row"] (defScope s_NoText___init__) := ⟨rfl, rfl, rfl, by decide +kernel, rfl, by decide +kernel, by decide +kernel⟩
theorem ok_NoText___init__ {f C C0 : Addr} {fd : FuncData} (F : Fun K "__init__" "NoText.__init__" s_NoText___init__ f fd) (hT : OexC K C) (h0 : PySem.W.findIn K (.ref C) "row" = some none) (hm : mg "JoinError" = some (.ref C0)) (hs : PySem.W.specialIn K (.ref C0) "__getattribute__" = some (some (.builtin "type.__getattribute__"))) (hrd : PySem.W.readsIn K C0 (.type "type") = true) (vV : PySem.W.findCls K (.ref C0) (.type "type") "__init__" = some (.val (.builtin "ValueError.__init__"))) : FnOk P w K mg base CX0 1 f fd ["self", "row"] (spX1 C (PySem.Str.ofString "row")) :=
  init1_ok F sc_NoText___init__ hT h0 fun cdv A outer sh H E => pss_cons (ps_expr (pe_jeinit hm hs hrd vV (pa_cons (pv 0) (pa_cons pe_str pa_nil)))) (pss_one (ps_ost (pv 0) (pv 1)))
abbrev s_law_drawn : Stmt := top 14
theorem sc_law_drawn : FnScope ["_law_digit", "_law_turns", "_law_size", "_law_most", "_law_number_here", "_law_k"] ["_law_digit", "_law_turns", "_law_size"] (defScope s_law_drawn) := ⟨rfl, rfl, rfl, by decide +kernel, rfl, by decide +kernel, by decide +kernel⟩
set_option maxHeartbeats 4000000 in
theorem ok_law_drawn {f : Addr} {fd : FuncData} (F : Fun K "_law_drawn" "_law_drawn" s_law_drawn f fd) (T : Txt K mg) (hK : O.K = K)  : FnOk P w K mg base (L2.CX P w) 2 f fd ["_law_digit", "_law_turns", "_law_size"] (spP O [false, false, false] m_law_drawn_2) := by
  refine fn_P F sc_law_drawn rfl (by decide) (fun cdv A outer sh H E Y hO hnb tk hp hr => ?_)
  subst hO
  exact gs_cons (gs_asg 3 sc_law_drawn.nd (ge_int))
      (gs_cons (gs_asg 4 sc_law_drawn.nd (ge_var 0))
      (gs_cons (gs_for hp rfl (gi_rng1 T.n_range (ge_var 2)) (gg_name 5 sc_law_drawn.nd)
      (gs_one (gs_asg 3 sc_law_drawn.nd (ge_mul (ge_bor 3) (pe_pb (ge_int))))))
      (gs_cons (gs_for hp rfl (gi_rng1 T.n_range (ge_var 1)) (gg_name 5 sc_law_drawn.nd)
      (gs_one (gs_asg 4 sc_law_drawn.nd (ge_mod (pe_pb (ge_mul (ge_bor 4) (pe_pb (ge_add (ge_bor 0) (ge_bor 5))))) (pe_pb (ge_pow (pe_pb (ge_int)) (pe_pb (ge_int))))))))
      (gs_one (gs_ret (ge_mod (ge_bor 4) (ge_bor 3)))))))
abbrev s_law_numbers : Stmt := top 13
theorem sc_law_numbers : FnScope ["_law_cell", "_law_salt", "_law_sizes", "_law_number_here", "_law_left", "_law_found", "_law_k", "_law_one"] ["_law_cell", "_law_salt", "_law_sizes"] (defScope s_law_numbers) := ⟨rfl, rfl, rfl, by decide +kernel, rfl, by decide +kernel, by decide +kernel⟩
set_option maxHeartbeats 4000000 in
theorem ok_law_numbers {f : Addr} {fd : FuncData} (F : Fun K "_law_numbers" "_law_numbers" s_law_numbers f fd) (T : Txt K mg) (hK : O.K = K)  : FnOk P w K mg base (L2.CX P w) 2 f fd ["_law_cell", "_law_salt", "_law_sizes"] (spF O [false, false, true] m_law_numbers) := by
  refine fn_F F sc_law_numbers rfl (by decide) (fun cdv A outer sh H E Y hO hnb tk hp hr => ?_)
  subst hO
  exact gs_cons (gs_asg 3 sc_law_numbers.nd (ge_max2 rfl T.n_max (ge_bor 0) (pe_pb (ge_sub (pe_pb (ge_neg (pe_pb (ge_int)))) (ge_bor 0)))))
      (gs_cons (gs_asg 4 sc_law_numbers.nd (ge_var 3))
      (gs_cons (gs_own 5 sc_law_numbers.nd (gf_lst (ga_nil)))
      (gs_cons (gs_for hp rfl (gi_rng1 T.n_range (ge_len hK T.n_len (ge_bor 2))) (gg_name 6 sc_law_numbers.nd)
      (gs_one (gs_if ((gw_and (gt_ge (ge_bor 3) (pe_pb (ge_pow (pe_pb (ge_int)) (pe_pb (ge_int))))) (gw_and1 (gt_gt (ge_bor 4) (pe_pb (ge_int))))).pt)
      (gs_cons (gs_app 5 (pe_bm PySem.F.plainAttrs_list PySem.F.slot_list_append PySem.F.type_list_append mt_append (pv 5) (pa_cons (ge_mod (ge_bor 4) (pe_pb (ge_ix hK (ge_bor 2) (ge_bor 6)))) pa_nil)))
      (gs_one (gs_asg 4 sc_law_numbers.nd (ge_div (ge_bor 4) (pe_pb (ge_ix hK (ge_bor 2) (ge_bor 6)))))))
      (gs_cons (gs_asg 7 sc_law_numbers.nd (ge_mod (pe_pb (ge_pow (pe_pb (ge_add (pe_pb (ge_add (pe_pb (ge_mod (ge_bor 3) (pe_pb (ge_int)))) (pe_pb (ge_mul (pe_pb (ge_int)) (ge_bor 1))))) (pe_pb (ge_int)))) (pe_pb (ge_int)))) (pe_pb (ge_int))))
      (gs_cons (gs_asg 7 sc_law_numbers.nd (ge_mod (pe_pb (ge_mul (pe_pb (ge_add (ge_bor 7) (pe_pb (ge_mul (pe_pb (ge_int)) (pe_pb (ge_add (ge_bor 6) (pe_pb (ge_int)))))))) (pe_pb (ge_add (ge_bor 6) (pe_pb (ge_int)))))) (pe_pb (ge_int))))
      (gs_cons (gs_asg 7 sc_law_numbers.nd (ge_mod (pe_pb (ge_mul (pe_pb (ge_mod (pe_pb (ge_pow (ge_bor 7) (pe_pb (ge_int)))) (pe_pb (ge_int)))) (pe_pb (ge_int)))) (pe_pb (ge_int))))
      (gs_one (gs_app 5 (pe_bm PySem.F.plainAttrs_list PySem.F.slot_list_append PySem.F.type_list_append mt_append (pv 5) (pa_cons (ge_mod (pe_pb (ge_div (ge_bor 7) (pe_pb (ge_int)))) (pe_pb (ge_ix hK (ge_bor 2) (ge_bor 6)))) pa_nil))))))))))
      (gs_one (gs_retO 5)))))
abbrev s_law_number : Stmt := top 15
theorem sc_law_number : FnScope ["_law_word", "_law_number_here", "_law_sign"] ["_law_word"] (defScope s_law_number) := ⟨rfl, rfl, rfl, by decide +kernel, rfl, by decide +kernel, by decide +kernel⟩
set_option maxHeartbeats 4000000 in
theorem ok_law_number {f : Addr} {fd : FuncData} (F : Fun K "_law_number" "_law_number" s_law_number f fd) (T : Txt K mg) (hK : O.K = K)  : FnOk P w K mg base (L2.CX P w) 2 f fd ["_law_word"] (spP O [false] m_law_number_2) := by
  refine fn_P F sc_law_number rfl (by decide) (fun cdv A outer sh H E Y hO hnb tk hp hr => ?_)
  subst hO
  exact gs_cons (gs_if ((gw_or (gt_eq hK hr.units (ge_bor 0) (pe_pb (ge_str []))) (gw_or (gt_gt (pe_pb (ge_len hK T.n_len (ge_bor 0))) (pe_pb (ge_int))) (gw_or1 ((gw_and (gt_eq hK hr.units (pe_pb (ge_ix hK (ge_bor 0) (pe_pb (ge_int)))) (pe_pb (ge_str [48]))) (gw_and1 (gt_gt (pe_pb (ge_len hK T.n_len (ge_bor 0))) (pe_pb (ge_int))))).pt)))).pt)
      (gs_one (gs_ret (ge_non)))
      (gs_nil))
      (gs_cons (gs_asg 1 sc_law_number.nd (ge_int))
      (gs_cons (gs_for hp rfl (gi_str (ge_bor 0)) (gg_name 2 sc_law_number.nd)
      (gs_cons (gs_if (gt_ninS (ge_bor 2) (pe_pb (ge_str [48, 49, 50, 51, 52, 53, 54, 55, 56, 57])))
      (gs_one (gs_ret (ge_non)))
      (gs_nil))
      (gs_one (gs_asg 1 sc_law_number.nd (ge_add (pe_pb (ge_mul (ge_bor 1) (pe_pb (ge_int)))) (pe_pb (ge_idx10 rfl tk (ge_bor 2))))))))
      (gs_one (gs_ret (ge_var 1)))))
abbrev s_law_due : Stmt := top 16
theorem sc_law_due : FnScope ["_law_text", "_law_numbers_here", "_law_word"] ["_law_text"] (defScope s_law_due) := ⟨rfl, rfl, rfl, by decide +kernel, rfl, by decide +kernel, by decide +kernel⟩
set_option maxHeartbeats 4000000 in
theorem ok_law_due {f : Addr} {fd : FuncData} (F : Fun K "_law_due" "_law_due" s_law_due f fd) (T : Txt K mg) (hK : O.K = K) (G_law_number : GFn P w K mg base "_law_number" 2 (spP O [false] m_law_number_2)) : FnOk P w K mg base (L2.CX P w) 3 f fd ["_law_text"] (spP O [false] m_law_due) := by
  refine fn_P F sc_law_due rfl (by decide) (fun cdv A outer sh H E Y hO hnb tk hp hr => ?_)
  subst hO
  exact gs_cons (gs_if (gt_not (gt_val (ge_isi "str" hK (by rfl) T.n_isinstance (by rfl) T.n_str (by decide +kernel) (ge_bor 0))))
      (gs_one (gs_ret (ge_non)))
      (gs_nil))
      (gs_cons (gs_if (gt_eq hK hr.units (ge_bor 0) (pe_pb (ge_str [])))
      (gs_one (gs_ret (pe_fp (gf_lst (ga_nil)))))
      (gs_nil))
      (gs_cons (gs_ownC [("_law_word", 2)] 1 rfl sc_law_due.nd (sw_true rfl rfl rfl rfl) (gic_list hK (pe_pb (pe_fp (gf_split (ge_bor 0) (pe_pb (ge_str [32])))))) (by rfl) (bg_name 2) (fun s H C cl fp => pgn 2 sc_law_due.nd) (fun s H C cl fp => gts_nil) (fun s H C cl fp => ge_call G_law_number (hr.mono (by decide)) JP.takes0 (ga_v (ge_var 2) (ga_nil))))
      (gs_cons (gs_if (gt_inL hK hr (pe_pb (ge_non)) (ge_bor 1))
      (gs_one (gs_ret (ge_non)))
      (gs_nil))
      (gs_one (gs_frz 1 (gs_ret (ge_var 1)))))))
abbrev s_writes_number : Stmt := top 6
theorem sc_writes_number : FnScope ["text", "sign"] ["text"] (defScope s_writes_number) := ⟨rfl, rfl, rfl, by decide +kernel, rfl, by decide +kernel, by decide +kernel⟩
set_option maxHeartbeats 4000000 in
theorem ok_writes_number {f : Addr} {fd : FuncData} (F : Fun K "writes_number" "writes_number" s_writes_number f fd) (T : Txt K mg) (hK : O.K = K)  : FnOk P w K mg base (L2.CX P w) 2 f fd ["text"] (spP O [false] m_writes_number) := by
  refine fn_P F sc_writes_number rfl (by decide) (fun cdv A outer sh H E Y hO hnb tk hp hr => ?_)
  subst hO
  exact gs_cons (gs_for hp rfl (gi_str (ge_bor 0)) (gg_name 1 sc_writes_number.nd)
      (gs_one (gs_if (gt_ninS (ge_bor 1) (pe_pb ((by obtain ⟨t, h⟩ := T.c_FIGURES; exact ge_glob (p := .str [48, 49, 50, 51, 52, 53, 54, 55, 56, 57]) (v := .str (tx [48, 49, 50, 51, 52, 53, 54, 55, 56, 57])) (by rfl) h ⟨t, rfl⟩ fun _ _ => Rep.str_iff.mpr ⟨rfl, by decide⟩))))
      (gs_one (gs_ret (ge_bl)))
      (gs_nil))))
      (gs_one (gs_ret (ge_and (ge_ne hK hr.units (ge_bor 0) (pe_pb (ge_str []))) (ge_one (ge_or (ge_ne hK hr.units (pe_pb (ge_ix hK (ge_bor 0) (pe_pb (ge_int)))) (pe_pb (ge_str [48]))) (ge_one (ge_eq hK hr.units (ge_bor 0) (pe_pb (ge_str [48])))))))))
abbrev s_read_number : Stmt := top 8
theorem sc_read_number : FnScope ["text"] ["text"] (defScope s_read_number) := ⟨rfl, rfl, rfl, by decide +kernel, rfl, by decide +kernel, by decide +kernel⟩
set_option maxHeartbeats 4000000 in
theorem ok_read_number {f : Addr} {fd : FuncData} (F : Fun K "read_number" "read_number" s_read_number f fd) (T : Txt K mg) (hK : O.K = K) {C_NoText : Addr} (X_NoText : XE1 P w K mg base O "NoText" "row" C_NoText 1) (G_writes_number : GFn P w K mg base "writes_number" 2 (spP O [false] m_writes_number)) : FnOk P w K mg base (L2.CX P w) 4 f fd ["text"] (spP O [false] m_read_number) := by
  refine fn_P F sc_read_number rfl (by decide) (fun cdv A outer sh H E Y hO hnb tk hp hr => ?_)
  subst hO
  exact gs_cons (gs_if ((gw_or (gt_not (gt_val (ge_isi "str" hK (by rfl) T.n_isinstance (by rfl) T.n_str (by decide +kernel) (ge_bor 0)))) (gw_or (gt_gt (pe_pb (ge_len hK T.n_len (ge_bor 0))) (pe_pb ((by obtain ⟨t, h⟩ := T.c_MOST_FIGURES; exact ge_glob (p := .int 60) (v := .int 60) (by rfl) h ⟨t, rfl⟩ fun _ _ => Rep.int_iff.mpr rfl)))) (gw_or1 (gt_not (gt_val (ge_call G_writes_number (hr.mono (by decide)) tk (ga_v (ge_var 0) (ga_nil)))))))).pt)
      (gs_one (gs_raise1 "NoText" "row" X_NoText.made X_NoText.cl rfl (hr.mono (by decide)) tk (ga_v (ge_int) (ga_nil))))
      (gs_nil))
      (gs_one (gs_ret (ge_int1 T.n_int (ge_bor 0))))
abbrev s_read_numbers : Stmt := top 11
theorem sc_read_numbers : FnScope ["text", "word"] ["text"] (defScope s_read_numbers) := ⟨rfl, rfl, rfl, by decide +kernel, rfl, by decide +kernel, by decide +kernel⟩
set_option maxHeartbeats 4000000 in
theorem ok_read_numbers {f : Addr} {fd : FuncData} (F : Fun K "read_numbers" "read_numbers" s_read_numbers f fd) (T : Txt K mg) (hK : O.K = K) {C_NoText : Addr} (X_NoText : XE1 P w K mg base O "NoText" "row" C_NoText 1) (G_read_number : GFn P w K mg base "read_number" 4 (spP O [false] m_read_number)) : FnOk P w K mg base (L2.CX P w) 5 f fd ["text"] (spF O [false] m_read_numbers) := by
  refine fn_F F sc_read_numbers rfl (by decide) (fun cdv A outer sh H E Y hO hnb tk hp hr => ?_)
  subst hO
  exact gs_cons (gs_if (gt_not (gt_val (ge_isi "str" hK (by rfl) T.n_isinstance (by rfl) T.n_str (by decide +kernel) (ge_bor 0))))
      (gs_one (gs_raise1 "NoText" "row" X_NoText.made X_NoText.cl rfl (hr.mono (by decide)) tk (ga_v (ge_int) (ga_nil))))
      (gs_nil))
      (gs_cons (gs_if (gt_eq hK hr.units (ge_bor 0) (pe_pb (ge_str [])))
      (gs_one (gs_retF (gf_lst (ga_nil))))
      (gs_nil))
      (gs_one (gs_retF (gf_compX [("word", 1)] rfl rfl tk rfl sc_read_numbers.nd (gic_list hK (pe_pb (pe_fp (gf_split (ge_bor 0) (pe_pb (ge_str [32])))))) (by rfl) (bg_name 1) (fun s H C cl fp xe => pgn 1 sc_read_numbers.nd) (fun s H C cl fp xe => gts_nil) (fun σ s H C cl fp xe tkx => ge_call G_read_number (hr.mono (by decide)) tkx (ga_v (ge_var 1) (ga_nil)))))))
abbrev s_law_read : Stmt := top 17
theorem sc_law_read : FnScope ["_law_thing", "_law_found", "e"] ["_law_thing"] (defScope s_law_read) := ⟨rfl, rfl, rfl, by decide +kernel, rfl, by decide +kernel, by decide +kernel⟩
set_option maxHeartbeats 4000000 in
theorem ok_law_read {f : Addr} {fd : FuncData} (F : Fun K "_law_read" "_law_read" s_law_read f fd) (T : Txt K mg) (hK : O.K = K) {C_NoText : Addr} (X_NoText : XE1 P w K mg base O "NoText" "row" C_NoText 1) (XF_row : XFs O "row") (G_read_numbers : GFn P w K mg base "read_numbers" 5 (spF O [false] m_read_numbers)) : FnOk P w K mg base (L2.CX P w) 6 f fd ["_law_thing"] (spP O [false] m_law_read) := by
  refine fn_P F sc_law_read rfl (by decide) (fun cdv A outer sh H E Y hO hnb tk hp hr => ?_)
  subst hO
  exact gs_cons (gs_asg 1 sc_law_read.nd (ge_tup (ga_v (ge_str [110, 111]) (ga_v (ge_int) (ga_nil)))))
      (gs_cons (gs_tryE hK tk rfl rfl
      (fun W pn xe tk hp => gs_one (gs_asg 1 sc_law_read.nd (ge_tup (ga_v (ge_str [114, 101, 97, 100]) (ga_v (pe_fp (gf_call G_read_numbers (hr.mono (by decide)) tk (ga_v (ge_var 0) (ga_nil)))) (ga_nil))))))
      (.named 2 "NoText" sc_law_read.nd ⟨rfl, by decide, Or.inl X_NoText.mg⟩ X_NoText.xm (fun a pn => gs_one (gs_asg 1 sc_law_read.nd (ge_tup (ga_v (ge_str [110, 111]) (ga_v (ge_erf "row" hK XF_row (ge_var 2)) (ga_nil)))))) .nil))
      (gs_one (gs_ret (ge_var 1))))
abbrev s_law_right : Stmt := top 18
theorem sc_law_right : FnScope ["_law_thing", "_law_due_here", "_law_one", "_law_word", "_law_found"] ["_law_thing"] (defScope s_law_right) := ⟨rfl, rfl, rfl, by decide +kernel, rfl, by decide +kernel, by decide +kernel⟩
set_option maxHeartbeats 4000000 in
theorem ok_law_right {f : Addr} {fd : FuncData} (F : Fun K "_law_right" "_law_right" s_law_right f fd) (T : Txt K mg) (hK : O.K = K) (G_law_due : GFn P w K mg base "_law_due" 3 (spP O [false] m_law_due)) (G_law_read : GFn P w K mg base "_law_read" 6 (spP O [false] m_law_read)) : FnOk P w K mg base (L2.CX P w) 7 f fd ["_law_thing"] (spP O [false] m_law_right_2) := by
  refine fn_P F sc_law_right rfl (by decide) (fun cdv A outer sh H E Y hO hnb tk hp hr => ?_)
  subst hO
  exact gs_cons (gs_asg 1 sc_law_right.nd (ge_call G_law_due (hr.mono (by decide)) tk (ga_v (ge_var 0) (ga_nil))))
      (gs_cons (gs_unp (ge_call G_law_read (hr.mono (by decide)) tk (ga_v (ge_var 0) (ga_nil))) (gg_two 3 4 rfl sc_law_right.nd))
      (gs_cons (gs_if (gt_is (ge_bor 1) (pe_pb (ge_non)))
      (gs_one (gs_ret (ge_and (ge_eq hK hr.units (ge_bor 3) (pe_pb (ge_str [110, 111]))) (ge_and (ge_isi "int" hK (by rfl) T.n_isinstance (by rfl) T.n_int (by decide +kernel) (ge_bor 4)) (ge_and (ge_not (ge_isi "bool" hK (by rfl) T.n_isinstance (by rfl) T.n_bool (by decide +kernel) (ge_bor 4))) (ge_one (ge_eq hK hr.units (ge_bor 4) (pe_pb (ge_int)))))))))
      (gs_nil))
      (gs_cons (gs_if ((gw_or (gt_ne hK hr.units (ge_bor 3) (pe_pb (ge_str [114, 101, 97, 100]))) (gw_or1 (gt_not (gt_val (ge_isi "list" hK (by rfl) T.n_isinstance (by rfl) T.n_list (by decide +kernel) (ge_bor 4)))))).pt)
      (gs_one (gs_ret (ge_bl)))
      (gs_nil))
      (gs_cons (gs_for hp rfl (gi_any hK (ge_q 4)) (gg_name 2 sc_law_right.nd)
      (gs_one (gs_if ((gw_or (gt_not (gt_val (ge_isi "int" hK (by rfl) T.n_isinstance (by rfl) T.n_int (by decide +kernel) (ge_bor 2)))) (gw_or1 (gt_val (ge_isi "bool" hK (by rfl) T.n_isinstance (by rfl) T.n_bool (by decide +kernel) (ge_bor 2))))).pt)
      (gs_one (gs_ret (ge_bl)))
      (gs_nil))))
      (gs_one (gs_ret (ge_eq hK hr.units (ge_bor 4) (ge_bor 1))))))))
abbrev s_show_number : Stmt := top 7
theorem sc_show_number : FnScope ["number"] ["number"] (defScope s_show_number) := ⟨rfl, rfl, rfl, by decide +kernel, rfl, by decide +kernel, by decide +kernel⟩
set_option maxHeartbeats 4000000 in
theorem ok_show_number {f : Addr} {fd : FuncData} (F : Fun K "show_number" "show_number" s_show_number f fd) (T : Txt K mg) (hK : O.K = K)  : FnOk P w K mg base (L2.CX P w) 2 f fd ["number"] (spP O [false] m_show_number) := by
  refine fn_P F sc_show_number rfl (by decide) (fun cdv A outer sh H E Y hO hnb tk hp hr => ?_)
  subst hO
  exact gs_one (gs_ret (ge_str1 T.n_str (ge_bor 0)))
abbrev s_show_numbers : Stmt := top 10
theorem sc_show_numbers : FnScope ["numbers", "number"] ["numbers"] (defScope s_show_numbers) := ⟨rfl, rfl, rfl, by decide +kernel, rfl, by decide +kernel, by decide +kernel⟩
set_option maxHeartbeats 4000000 in
theorem ok_show_numbers {f : Addr} {fd : FuncData} (F : Fun K "show_numbers" "show_numbers" s_show_numbers f fd) (T : Txt K mg) (hK : O.K = K) (G_show_number : GFn P w K mg base "show_number" 2 (spP O [false] m_show_number)) : FnOk P w K mg base (L2.CX P w) 3 f fd ["numbers"] (spP O [true] m_show_numbers) := by
  refine fn_P F sc_show_numbers rfl (by decide) (fun cdv A outer sh H E Y hO hnb tk hp hr => ?_)
  subst hO
  exact gs_one (gs_ret (ge_join hK (pe_pb (ge_str [32])) (pe_pb (pe_fp (gf_comp [("number", 1)] rfl sc_show_numbers.nd (gic_list hK (ge_bor 0)) (by rfl) (bg_name 1) (fun s H C cl fp => pgn 1 sc_show_numbers.nd) (fun s H C cl fp => gts_nil) (fun s H C cl fp => ge_call G_show_number (hr.mono (by decide)) JP.takes0 (ga_v (ge_var 1) (ga_nil))))))))
abbrev s_law : Stmt := top 19
theorem sc_law : FnScope ["_law_script", "_law_some", "_law_at", "_law_cell", "_law_digits", "_law_numbers_here", "_law_k", "_law_handed", "_law_text", "_law_spot", "_law_sign", "_law_bent", "_law_odd", "_law_thing", "_law_found", "_law_one"] ["_law_script"] (defScope s_law) := ⟨rfl, rfl, rfl, by decide +kernel, rfl, by decide +kernel, by decide +kernel⟩
set_option maxHeartbeats 4000000 in
theorem ok_law {f : Addr} {fd : FuncData} (F : Fun K "law" "law" s_law f fd) (T : Txt K mg) (hK : O.K = K) (G_law_drawn : GFn P w K mg base "_law_drawn" 2 (spP O [false, false, false] m_law_drawn_2)) (G_law_numbers : GFn P w K mg base "_law_numbers" 2 (spF O [false, false, true] m_law_numbers)) (G_read_numbers : GFn P w K mg base "read_numbers" 5 (spF O [false] m_read_numbers)) (G_law_right : GFn P w K mg base "_law_right" 7 (spP O [false] m_law_right_2)) (G_show_numbers : GFn P w K mg base "show_numbers" 3 (spP O [true] m_show_numbers)) : FnOk P w K mg base (L2.CX P w) 8 f fd ["_law_script"] (spP O [false] m_law_k85) := by
  refine fn_P F sc_law rfl (by decide) (fun cdv A outer sh H E Y hO hnb tk hp hr => ?_)
  subst hO
  exact gs_cons (gs_asg 1 sc_law.nd (ge_str [48, 49, 50, 51, 52, 53, 54, 55, 56, 57, 32, 10, 9, 45, 43, 95, 46, 44, 97, 98, 99, 120, 121, 122, 65, 66, 67, 88, 89, 90, 33, 34, 35, 36, 38, 39, 40, 41, 42, 47, 58, 59, 60, 61, 62, 63, 64, 91, 92, 93, 94, 96, 123, 124, 125, 126]))
      (gs_cons (gs_for hp rfl (gi_enum hK T.n_enumerate (pe_pq (pe_fp (gf_cat hK (pe_pb (pe_fp (gf_lst (ga_v (ge_int) (ga_nil))))) (pe_pb (pe_fp (gf_sl hK (ge_bor 0) (go_no) (go_some (ge_int))))))))) (gg_two 2 3 rfl sc_law.nd)
      (gs_cons (gs_asg 4 sc_law.nd (pe_fp (gf_call G_law_numbers (hr.mono (by decide)) tk (ga_v (ge_var 3) (ga_v (ge_add (pe_pb (ge_int)) (ge_bor 2)) (ga_b (pe_pb (pe_fp (gf_cat hK (pe_pb (pe_fp (gf_lst (ga_v (ge_int) (ga_v (ge_int) (ga_v (ge_int) (ga_v (ge_int) (ga_v (ge_int) (ga_nil))))))))) (pe_pb (pe_fp (gf_rep (pe_pb (pe_fp (gf_lst (ga_v (ge_pow (pe_pb (ge_int)) (pe_pb (ge_int))) (ga_v (ge_int) (ga_v (ge_int) (ga_nil))))))) (pe_pb (ge_int)))))))) (ga_nil)))))))
      (gs_cons (gs_own 5 sc_law.nd (gf_lst (ga_nil)))
      (gs_cons (gs_for hp rfl (gi_rng1 T.n_range (ge_ix hK (ge_bor 4) (pe_pb (ge_int)))) (gg_name 6 sc_law.nd)
      (gs_one (gs_app 5 (pe_bm PySem.F.plainAttrs_list PySem.F.slot_list_append PySem.F.type_list_append mt_append (pv 5) (pa_cons (ge_call G_law_drawn (hr.mono (by decide)) tk (ga_v (ge_ix hK (ge_bor 4) (pe_pb (ge_add (pe_pb (ge_int)) (pe_pb (ge_mul (pe_pb (ge_int)) (ge_bor 6)))))) (ga_v (ge_ix hK (ge_bor 4) (pe_pb (ge_add (pe_pb (ge_int)) (pe_pb (ge_mul (pe_pb (ge_int)) (ge_bor 6)))))) (ga_v (ge_ix hK (ge_bor 4) (pe_pb (ge_add (pe_pb (ge_int)) (pe_pb (ge_mul (pe_pb (ge_int)) (ge_bor 6)))))) (ga_nil))))) pa_nil)))))
      (gs_cons (gs_asg 7 sc_law.nd (pe_fp (gf_list hK rfl T.n_list (ge_bor 5))))
      (gs_cons (gs_asg 8 sc_law.nd (ge_call G_show_numbers (hr.mono (by decide)) tk (ga_b (ge_bor 7) (ga_nil))))
      (gs_cons (gs_if ((gw_or (gt_ne hK hr.units (ge_bor 7) (ge_bor 5)) (gw_or (gt_not (gt_val (ge_isi "str" hK (by rfl) T.n_isinstance (by rfl) T.n_str (by decide +kernel) (ge_bor 8)))) (gw_or1 (gt_ne hK hr.units (ge_bor 8) (pe_pb (ge_join hK (pe_pb (ge_str [32])) (pe_pb (pe_fp (gf_comp [("_law_one", 15)] rfl sc_law.nd (gic_list hK (ge_bor 5)) (by rfl) (bg_name 15) (fun s H C cl fp => pgn 15 sc_law.nd) (fun s H C cl fp => gts_nil) (fun s H C cl fp => ge_str1 T.n_str (ge_bor 15))))))))))).pt)
      (gs_one (gs_ret (ge_bl)))
      (gs_nil))
      (gs_cons (gs_asg 9 sc_law.nd (ge_mod (pe_pb (ge_ix hK (ge_bor 4) (pe_pb (ge_int)))) (pe_pb (ge_add (pe_pb (ge_len hK T.n_len (ge_bor 8))) (pe_pb (ge_int))))))
      (gs_cons (gs_asg 10 sc_law.nd (ge_ix hK (ge_bor 1) (pe_pb (ge_mod (pe_pb (ge_ix hK (ge_bor 4) (pe_pb (ge_int)))) (pe_pb (ge_len hK T.n_len (ge_bor 1)))))))
      (gs_cons (gs_asg 11 sc_law.nd (pe_fp (gf_lst (ga_v (ge_add (pe_pb (ge_add (pe_pb (ge_slS (ge_bor 8) (go_no) (go_some (ge_var 9)))) (ge_bor 10))) (pe_pb (ge_slS (ge_bor 8) (go_some (ge_var 9)) (go_no)))) (ga_v (ge_add (pe_pb (ge_slS (ge_bor 8) (go_no) (go_some (ge_var 9)))) (pe_pb (ge_slS (ge_bor 8) (go_some (ge_add (ge_bor 9) (pe_pb (ge_int)))) (go_no)))) (ga_v (ge_add (pe_pb (ge_add (pe_pb (ge_slS (ge_bor 8) (go_no) (go_some (ge_var 9)))) (ge_bor 10))) (pe_pb (ge_slS (ge_bor 8) (go_some (ge_add (ge_bor 9) (pe_pb (ge_int)))) (go_no)))) (ga_nil)))))))
      (gs_cons (gs_asg 12 sc_law.nd (ge_ix hK (pe_pb (pe_fp (gf_lst (ga_v (ge_non) (ga_v (ge_bl) (ga_v (ge_int) (ga_v (pe_fp (gf_lst (ga_v (ge_var 8) (ga_nil)))) (ga_v (ge_tup (ga_v (ge_var 8) (ga_nil))) (ga_v (ge_dct0) (ga_v (pe_fp (gf_lst (ga_nil))) (ga_v (ge_str [32]) (ga_v (ge_str [48, 32]) (ga_v (ge_mulS (pe_pb (ge_str [48])) (pe_pb (ge_int))) (ga_nil)))))))))))))) (pe_pb (ge_ix hK (ge_bor 4) (pe_pb (ge_int))))))
      (gs_cons (gs_for hp rfl (gi_list hK (pe_pq (pe_fp (gf_lst (ga_v (ge_var 8) (ga_v (ge_ix hK (ge_bor 11) (pe_pb (ge_ix hK (ge_bor 4) (pe_pb (ge_int))))) (ga_v (ge_add (ge_bor 8) (pe_pb (ge_str [32]))) (ga_v (ge_add (ge_bor 8) (pe_pb (ge_str [10]))) (ga_v (ge_var 12) (ga_v (ge_add (pe_pb (ge_str [32])) (ge_bor 8)) (ga_v (ge_var 8) (ga_nil)))))))))))) (gg_name 13 sc_law.nd)
      (gs_one (gs_if (gt_not (gt_val (ge_call G_law_right (hr.mono (by decide)) tk (ga_v (ge_var 13) (ga_nil)))))
      (gs_one (gs_ret (ge_bl)))
      (gs_nil))))
      (gs_cons (gs_own 14 sc_law.nd (gf_call G_read_numbers (hr.mono (by decide)) tk (ga_v (ge_var 8) (ga_nil))))
      (gs_cons (gs_app 14 (pe_bm PySem.F.plainAttrs_list PySem.F.slot_list_append PySem.F.type_list_append mt_append (pv 14) (pa_cons (ge_int) pa_nil)))
      (gs_cons (gs_rev 14 (pe_bm0 PySem.F.plainAttrs_list PySem.F.slot_list_reverse PySem.F.type_list_reverse mt_reverse (pv 14)))
      (gs_one (gs_if (gt_ne hK hr.units (pe_pb (pe_fp (gf_call G_read_numbers (hr.mono (by decide)) tk (ga_v (ge_var 8) (ga_nil))))) (ge_bor 5))
      (gs_one (gs_ret (ge_bl)))
      (gs_nil))))))))))))))))))
      (gs_one (gs_ret (ge_bl))))
end
set_option maxHeartbeats 4000000 in
theorem all_mk {P : Program} {w : World} {K : PySem.W.Frag} {h : Heap} {mg : Str → Option Value} {fa : Addr} (X : K.In h) (G : h.Ns mainGlobals mg) (hfa : mg "law" = some (.ref fa))
    {t_FIGURES : Tok}
    {t_MOST_FIGURES : Tok}
    {CJ : Addr}
    {C_NoText fI_NoText : Addr} {nm_NoText qq_NoText : Str} {N_NoText : Addr} {bs_NoText bm_NoText sub_NoText : List Value} {sn_NoText : List Str} {ab_NoText : Bool} {col_NoText : Option Bool} {dd_NoText : Option Addr} {k0_NoText k1_NoText k2_NoText k3_NoText k5_NoText : Option Value} {od_NoText an_NoText : Option Addr} {sl_NoText : Array (Option Value)} {oc_NoText kV_NoText dc_NoText pm_NoText cd_NoText ct_NoText : Value}
    {f_law_drawn : Addr} {od_law_drawn an_law_drawn : Option Addr} {sl_law_drawn : Array (Option Value)} {oc_law_drawn kV_law_drawn dc_law_drawn pm_law_drawn cd_law_drawn ct_law_drawn : Value}
    {f_law_numbers : Addr} {od_law_numbers an_law_numbers : Option Addr} {sl_law_numbers : Array (Option Value)} {oc_law_numbers kV_law_numbers dc_law_numbers pm_law_numbers cd_law_numbers ct_law_numbers : Value}
    {f_law_number : Addr} {od_law_number an_law_number : Option Addr} {sl_law_number : Array (Option Value)} {oc_law_number kV_law_number dc_law_number pm_law_number cd_law_number ct_law_number : Value}
    {f_law_due : Addr} {od_law_due an_law_due : Option Addr} {sl_law_due : Array (Option Value)} {oc_law_due kV_law_due dc_law_due pm_law_due cd_law_due ct_law_due : Value}
    {f_writes_number : Addr} {od_writes_number an_writes_number : Option Addr} {sl_writes_number : Array (Option Value)} {oc_writes_number kV_writes_number dc_writes_number pm_writes_number cd_writes_number ct_writes_number : Value}
    {f_read_number : Addr} {od_read_number an_read_number : Option Addr} {sl_read_number : Array (Option Value)} {oc_read_number kV_read_number dc_read_number pm_read_number cd_read_number ct_read_number : Value}
    {f_read_numbers : Addr} {od_read_numbers an_read_numbers : Option Addr} {sl_read_numbers : Array (Option Value)} {oc_read_numbers kV_read_numbers dc_read_numbers pm_read_numbers cd_read_numbers ct_read_numbers : Value}
    {f_law_read : Addr} {od_law_read an_law_read : Option Addr} {sl_law_read : Array (Option Value)} {oc_law_read kV_law_read dc_law_read pm_law_read cd_law_read ct_law_read : Value}
    {f_law_right : Addr} {od_law_right an_law_right : Option Addr} {sl_law_right : Array (Option Value)} {oc_law_right kV_law_right dc_law_right pm_law_right cd_law_right ct_law_right : Value}
    {f_show_number : Addr} {od_show_number an_show_number : Option Addr} {sl_show_number : Array (Option Value)} {oc_show_number kV_show_number dc_show_number pm_show_number cd_show_number ct_show_number : Value}
    {f_show_numbers : Addr} {od_show_numbers an_show_numbers : Option Addr} {sl_show_numbers : Array (Option Value)} {oc_show_numbers kV_show_numbers dc_show_numbers pm_show_numbers cd_show_numbers ct_show_numbers : Value}
    {f_law : Addr} {od_law an_law : Option Addr} {sl_law : Array (Option Value)} {oc_law kV_law dc_law pm_law cd_law ct_law : Value}
    (z_bool : PySem.W.nsIn K mainGlobals "bool" = some none)
    (z_enumerate : PySem.W.nsIn K mainGlobals "enumerate" = some none)
    (z_int : PySem.W.nsIn K mainGlobals "int" = some none)
    (z_isinstance : PySem.W.nsIn K mainGlobals "isinstance" = some none)
    (z_len : PySem.W.nsIn K mainGlobals "len" = some none)
    (z_list : PySem.W.nsIn K mainGlobals "list" = some none)
    (z_max : PySem.W.nsIn K mainGlobals "max" = some none)
    (z_range : PySem.W.nsIn K mainGlobals "range" = some none)
    (z_str : PySem.W.nsIn K mainGlobals "str" = some none)
    (q_FIGURES : PySem.W.nsIn K mainGlobals "FIGURES" = some (some (.str "0123456789" t_FIGURES)))
    (q_MOST_FIGURES : PySem.W.nsIn K mainGlobals "MOST_FIGURES" = some (some (.int 60 t_MOST_FIGURES)))
    (eJ : PySem.W.nsIn K mainGlobals "JoinError" = some (some (.ref CJ)))
    (eJs : PySem.W.specialIn K (.ref CJ) "__getattribute__" = some (some (.builtin "type.__getattribute__")))
    (eJr : PySem.W.readsIn K CJ (.type "type") = true)
    (eJv : PySem.W.findCls K (.ref CJ) (.type "type") "__init__" = some (.val (.builtin "ValueError.__init__")))
    (e1_NoText : PySem.W.nsIn K mainGlobals "NoText" = some (some (.ref C_NoText)))
    (e2_NoText : K.lookup C_NoText = some (excClassObj nm_NoText qq_NoText C_NoText N_NoText bs_NoText bm_NoText true sn_NoText sub_NoText ab_NoText col_NoText dd_NoText k0_NoText k1_NoText k2_NoText k3_NoText k5_NoText "ValueError.__new__"))
    (e3_NoText : PySem.HandSPX.refsVE bm_NoText = true)
    (e4_NoText : PySem.W.findIn K (.ref C_NoText) "__setattr__" = some (some (.builtin "object.__setattr__")))
    (e5_NoText : PySem.W.subIn K (.ref C_NoText) (.type "BaseException") = some true)
    (e6_NoText : PySem.W.typeIn K (.ref C_NoText) = some (.type "type"))
    (e7_NoText : PySem.W.keepIn K (.ref C_NoText) = true)
    (e8_NoText : PySem.W.findIn K (.ref C_NoText) "__init__" = some (some (.ref fI_NoText)))
    (e9_NoText : PySem.W.typeIn K (.ref fI_NoText) = some (.type "function"))
    (ea_NoText : K.lookup fI_NoText = some ⟨oc_NoText, od_NoText, .func (PySem.W.fnOf "__init__" "NoText.__init__" (defArgs s_NoText___init__) (defBody s_NoText___init__) (defScope s_NoText___init__) .none kV_NoText dc_NoText pm_NoText an_NoText cd_NoText ct_NoText), sl_NoText⟩)
    (eb_NoText : PySem.W.codeIn K cd_NoText "NoText.__init__" = true)
    (ec_NoText : PySem.W.keepIn K (.ref fI_NoText) = true)
    (ed_NoText : PySem.W.findIn K (.ref C_NoText) "__getattribute__" = some (some (.builtin "BaseException.__getattribute__")))
    (ee_NoText : PySem.W.findIn K (.ref C_NoText) "__getattr__" = some none)
    (ef_NoText : PySem.W.hasDictIn K C_NoText = true)
    (eg0_NoText : PySem.W.findIn K (.ref C_NoText) "row" = some none)
    (tn : PySem.W.specialIn K (.builtin "object.__class__") "__get__" = some (some (.builtin "getset_descriptor.__get__")))
    (tt : PySem.W.takesIn K (.builtin "object.__class__") = some true)
    (ta_NoText : PySem.W.findIn K (.ref C_NoText) "__class__" = some (some (.builtin "object.__class__")))
    (tm_NoText : PySem.W.mroIn K C_NoText (.type "object") = some true)
    (tf_NoText_row : PySem.W.findIn K (.ref C_NoText) "row" = some none)
    (es_NoText_NoText : PySem.W.subIn K (.ref C_NoText) (.ref C_NoText) = some true)
    (a_law_drawn : PySem.W.nsIn K mainGlobals "_law_drawn" = some (some (.ref f_law_drawn)))
    (l_law_drawn : K.lookup f_law_drawn = some ⟨oc_law_drawn, od_law_drawn, .func (PySem.W.fnOf "_law_drawn" "_law_drawn" (defArgs s_law_drawn) (defBody s_law_drawn) (defScope s_law_drawn) .none kV_law_drawn dc_law_drawn pm_law_drawn an_law_drawn cd_law_drawn ct_law_drawn), sl_law_drawn⟩)
    (c_law_drawn : PySem.W.codeIn K cd_law_drawn "_law_drawn" = true)
    (k_law_drawn : PySem.W.keepIn K (.ref f_law_drawn) = true)
    (a_law_numbers : PySem.W.nsIn K mainGlobals "_law_numbers" = some (some (.ref f_law_numbers)))
    (l_law_numbers : K.lookup f_law_numbers = some ⟨oc_law_numbers, od_law_numbers, .func (PySem.W.fnOf "_law_numbers" "_law_numbers" (defArgs s_law_numbers) (defBody s_law_numbers) (defScope s_law_numbers) .none kV_law_numbers dc_law_numbers pm_law_numbers an_law_numbers cd_law_numbers ct_law_numbers), sl_law_numbers⟩)
    (c_law_numbers : PySem.W.codeIn K cd_law_numbers "_law_numbers" = true)
    (k_law_numbers : PySem.W.keepIn K (.ref f_law_numbers) = true)
    (a_law_number : PySem.W.nsIn K mainGlobals "_law_number" = some (some (.ref f_law_number)))
    (l_law_number : K.lookup f_law_number = some ⟨oc_law_number, od_law_number, .func (PySem.W.fnOf "_law_number" "_law_number" (defArgs s_law_number) (defBody s_law_number) (defScope s_law_number) .none kV_law_number dc_law_number pm_law_number an_law_number cd_law_number ct_law_number), sl_law_number⟩)
    (c_law_number : PySem.W.codeIn K cd_law_number "_law_number" = true)
    (k_law_number : PySem.W.keepIn K (.ref f_law_number) = true)
    (a_law_due : PySem.W.nsIn K mainGlobals "_law_due" = some (some (.ref f_law_due)))
    (l_law_due : K.lookup f_law_due = some ⟨oc_law_due, od_law_due, .func (PySem.W.fnOf "_law_due" "_law_due" (defArgs s_law_due) (defBody s_law_due) (defScope s_law_due) .none kV_law_due dc_law_due pm_law_due an_law_due cd_law_due ct_law_due), sl_law_due⟩)
    (c_law_due : PySem.W.codeIn K cd_law_due "_law_due" = true)
    (k_law_due : PySem.W.keepIn K (.ref f_law_due) = true)
    (a_writes_number : PySem.W.nsIn K mainGlobals "writes_number" = some (some (.ref f_writes_number)))
    (l_writes_number : K.lookup f_writes_number = some ⟨oc_writes_number, od_writes_number, .func (PySem.W.fnOf "writes_number" "writes_number" (defArgs s_writes_number) (defBody s_writes_number) (defScope s_writes_number) .none kV_writes_number dc_writes_number pm_writes_number an_writes_number cd_writes_number ct_writes_number), sl_writes_number⟩)
    (c_writes_number : PySem.W.codeIn K cd_writes_number "writes_number" = true)
    (k_writes_number : PySem.W.keepIn K (.ref f_writes_number) = true)
    (a_read_number : PySem.W.nsIn K mainGlobals "read_number" = some (some (.ref f_read_number)))
    (l_read_number : K.lookup f_read_number = some ⟨oc_read_number, od_read_number, .func (PySem.W.fnOf "read_number" "read_number" (defArgs s_read_number) (defBody s_read_number) (defScope s_read_number) .none kV_read_number dc_read_number pm_read_number an_read_number cd_read_number ct_read_number), sl_read_number⟩)
    (c_read_number : PySem.W.codeIn K cd_read_number "read_number" = true)
    (k_read_number : PySem.W.keepIn K (.ref f_read_number) = true)
    (a_read_numbers : PySem.W.nsIn K mainGlobals "read_numbers" = some (some (.ref f_read_numbers)))
    (l_read_numbers : K.lookup f_read_numbers = some ⟨oc_read_numbers, od_read_numbers, .func (PySem.W.fnOf "read_numbers" "read_numbers" (defArgs s_read_numbers) (defBody s_read_numbers) (defScope s_read_numbers) .none kV_read_numbers dc_read_numbers pm_read_numbers an_read_numbers cd_read_numbers ct_read_numbers), sl_read_numbers⟩)
    (c_read_numbers : PySem.W.codeIn K cd_read_numbers "read_numbers" = true)
    (k_read_numbers : PySem.W.keepIn K (.ref f_read_numbers) = true)
    (a_law_read : PySem.W.nsIn K mainGlobals "_law_read" = some (some (.ref f_law_read)))
    (l_law_read : K.lookup f_law_read = some ⟨oc_law_read, od_law_read, .func (PySem.W.fnOf "_law_read" "_law_read" (defArgs s_law_read) (defBody s_law_read) (defScope s_law_read) .none kV_law_read dc_law_read pm_law_read an_law_read cd_law_read ct_law_read), sl_law_read⟩)
    (c_law_read : PySem.W.codeIn K cd_law_read "_law_read" = true)
    (k_law_read : PySem.W.keepIn K (.ref f_law_read) = true)
    (a_law_right : PySem.W.nsIn K mainGlobals "_law_right" = some (some (.ref f_law_right)))
    (l_law_right : K.lookup f_law_right = some ⟨oc_law_right, od_law_right, .func (PySem.W.fnOf "_law_right" "_law_right" (defArgs s_law_right) (defBody s_law_right) (defScope s_law_right) .none kV_law_right dc_law_right pm_law_right an_law_right cd_law_right ct_law_right), sl_law_right⟩)
    (c_law_right : PySem.W.codeIn K cd_law_right "_law_right" = true)
    (k_law_right : PySem.W.keepIn K (.ref f_law_right) = true)
    (a_show_number : PySem.W.nsIn K mainGlobals "show_number" = some (some (.ref f_show_number)))
    (l_show_number : K.lookup f_show_number = some ⟨oc_show_number, od_show_number, .func (PySem.W.fnOf "show_number" "show_number" (defArgs s_show_number) (defBody s_show_number) (defScope s_show_number) .none kV_show_number dc_show_number pm_show_number an_show_number cd_show_number ct_show_number), sl_show_number⟩)
    (c_show_number : PySem.W.codeIn K cd_show_number "show_number" = true)
    (k_show_number : PySem.W.keepIn K (.ref f_show_number) = true)
    (a_show_numbers : PySem.W.nsIn K mainGlobals "show_numbers" = some (some (.ref f_show_numbers)))
    (l_show_numbers : K.lookup f_show_numbers = some ⟨oc_show_numbers, od_show_numbers, .func (PySem.W.fnOf "show_numbers" "show_numbers" (defArgs s_show_numbers) (defBody s_show_numbers) (defScope s_show_numbers) .none kV_show_numbers dc_show_numbers pm_show_numbers an_show_numbers cd_show_numbers ct_show_numbers), sl_show_numbers⟩)
    (c_show_numbers : PySem.W.codeIn K cd_show_numbers "show_numbers" = true)
    (k_show_numbers : PySem.W.keepIn K (.ref f_show_numbers) = true)
    (a_law : PySem.W.nsIn K mainGlobals "law" = some (some (.ref f_law)))
    (l_law : K.lookup f_law = some ⟨oc_law, od_law, .func (PySem.W.fnOf "law" "law" (defArgs s_law) (defBody s_law) (defScope s_law) .none kV_law dc_law pm_law an_law cd_law ct_law), sl_law⟩)
    (c_law : PySem.W.codeIn K cd_law "law" = true)
    (k_law : PySem.W.keepIn K (.ref f_law) = true) :
    ∃ fd : FuncData, (∀ (s : Shared) (v : Value), BindsTo s fd ⟨[v], []⟩ [("_law_script", v)]) ∧ ∀ base : Heap, K.In base → base.Ns mainGlobals mg → FnOk P w K mg base (L2.CX P w) 8 fa fd ["_law_script"] (spLaw K 63) := by
  have e := hfa.symm.trans (PySem.W.mg_of X G a_law)
  cases e
  have T : Txt K mg := ⟨PySem.W.mg_none_of X G z_bool, PySem.W.mg_none_of X G z_enumerate, PySem.W.mg_none_of X G z_int, PySem.W.mg_none_of X G z_isinstance, PySem.W.mg_none_of X G z_len, PySem.W.mg_none_of X G z_list, PySem.W.mg_none_of X G z_max, PySem.W.mg_none_of X G z_range, PySem.W.mg_none_of X G z_str, ⟨t_FIGURES, (PySem.W.mg_of X G q_FIGURES).trans (by rw [show (("0123456789" : String) : Str) = tx [48, 49, 50, 51, 52, 53, 54, 55, 56, 57] by decide +kernel])⟩, ⟨t_MOST_FIGURES, (PySem.W.mg_of X G q_MOST_FIGURES)⟩⟩
  let O : ObS := ⟨K, exTb [("NoText", C_NoText)], fun k => 0, fun k => [], fun _ _ _ => none⟩
  have hK : O.K = K := rfl
  have T_NoText : OexC K C_NoText := ⟨⟨_, _, _, _, _, _, _, _, _, _, _, _, _, _, _, e2_NoText, e3_NoText⟩, e4_NoText, e5_NoText, e6_NoText, e7_NoText⟩
  have F_NoText := fun_mk (st := s_NoText___init__) ea_NoText eb_NoText ec_NoText
  have b_NoText := F_NoText.binds (ps := ["self", "row"]) fun _ _ _ _ _ _ us hl => match us, hl with | [_, _], _ => rfl
  have xm_NoText : XM O "NoText" (.ref C_NoText) := AllT.go (P := fun n C => PySem.W.exmOne K (.ref C) (.ref C_NoText) = some (subX n "NoText")) (l := [("NoText", C_NoText)]) (.cons ((exm_of e5_NoText ef_NoText e6_NoText es_NoText_NoText).trans (by decide)) (.nil))
  have X_NoText : ∀ base, XE1 P w K mg base O "NoText" "row" C_NoText 1 := fun base => { made := ⟨T_NoText, PySem.W.mg_of X G e1_NoText, _, _, _, e8_NoText, e9_NoText, ok_NoText___init__ F_NoText T_NoText eg0_NoText (PySem.W.mg_of X G eJ) eJs eJr eJv, b_NoText⟩, cl := by simp [O], mg := PySem.W.mg_of X G e1_NoText, xf := ⟨ed_NoText, ee_NoText, e5_NoText, ef_NoText⟩, n1 := eg0_NoText, xm := xm_NoText }
  have XC_NoText : ExcC K C_NoText := ⟨ed_NoText, ee_NoText, e5_NoText, ef_NoText, ta_NoText, tn, tt, tm_NoText⟩
  have XF_row : XFs O "row" := AllT.go (P := fun c C => XfC K C ∧ PySem.W.findIn K (.ref C) (PySem.Str.ofString "row") = some none) (l := [("NoText", C_NoText)]) (.cons (⟨⟨ed_NoText, ee_NoText, e5_NoText, ef_NoText⟩, tf_NoText_row⟩) (.nil))
  have F_law_drawn := fun_mk (st := s_law_drawn) l_law_drawn c_law_drawn k_law_drawn
  have b_law_drawn := F_law_drawn.binds (ps := ["_law_digit", "_law_turns", "_law_size"]) fun _ _ _ _ _ _ us hl => match us, hl with | [_, _, _], _ => rfl
  have G_law_drawn : ∀ base, GFn P w K mg base "_law_drawn" 2 (spP O [false, false, false] m_law_drawn_2) := fun base => ⟨_, _, _, ok_law_drawn F_law_drawn T hK , PySem.W.mg_of X G a_law_drawn, k_law_drawn, b_law_drawn⟩
  have F_law_numbers := fun_mk (st := s_law_numbers) l_law_numbers c_law_numbers k_law_numbers
  have b_law_numbers := F_law_numbers.binds (ps := ["_law_cell", "_law_salt", "_law_sizes"]) fun _ _ _ _ _ _ us hl => match us, hl with | [_, _, _], _ => rfl
  have G_law_numbers : ∀ base, GFn P w K mg base "_law_numbers" 2 (spF O [false, false, true] m_law_numbers) := fun base => ⟨_, _, _, ok_law_numbers F_law_numbers T hK , PySem.W.mg_of X G a_law_numbers, k_law_numbers, b_law_numbers⟩
  have F_law_number := fun_mk (st := s_law_number) l_law_number c_law_number k_law_number
  have b_law_number := F_law_number.binds (ps := ["_law_word"]) fun _ _ _ _ _ _ us hl => match us, hl with | [_], _ => rfl
  have G_law_number : ∀ base, GFn P w K mg base "_law_number" 2 (spP O [false] m_law_number_2) := fun base => ⟨_, _, _, ok_law_number F_law_number T hK , PySem.W.mg_of X G a_law_number, k_law_number, b_law_number⟩
  have F_law_due := fun_mk (st := s_law_due) l_law_due c_law_due k_law_due
  have b_law_due := F_law_due.binds (ps := ["_law_text"]) fun _ _ _ _ _ _ us hl => match us, hl with | [_], _ => rfl
  have G_law_due : ∀ base, GFn P w K mg base "_law_due" 3 (spP O [false] m_law_due) := fun base => ⟨_, _, _, ok_law_due F_law_due T hK (G_law_number base), PySem.W.mg_of X G a_law_due, k_law_due, b_law_due⟩
  have F_writes_number := fun_mk (st := s_writes_number) l_writes_number c_writes_number k_writes_number
  have b_writes_number := F_writes_number.binds (ps := ["text"]) fun _ _ _ _ _ _ us hl => match us, hl with | [_], _ => rfl
  have G_writes_number : ∀ base, GFn P w K mg base "writes_number" 2 (spP O [false] m_writes_number) := fun base => ⟨_, _, _, ok_writes_number F_writes_number T hK , PySem.W.mg_of X G a_writes_number, k_writes_number, b_writes_number⟩
  have F_read_number := fun_mk (st := s_read_number) l_read_number c_read_number k_read_number
  have b_read_number := F_read_number.binds (ps := ["text"]) fun _ _ _ _ _ _ us hl => match us, hl with | [_], _ => rfl
  have G_read_number : ∀ base, GFn P w K mg base "read_number" 4 (spP O [false] m_read_number) := fun base => ⟨_, _, _, ok_read_number F_read_number T hK (X_NoText base) (G_writes_number base), PySem.W.mg_of X G a_read_number, k_read_number, b_read_number⟩
  have F_read_numbers := fun_mk (st := s_read_numbers) l_read_numbers c_read_numbers k_read_numbers
  have b_read_numbers := F_read_numbers.binds (ps := ["text"]) fun _ _ _ _ _ _ us hl => match us, hl with | [_], _ => rfl
  have G_read_numbers : ∀ base, GFn P w K mg base "read_numbers" 5 (spF O [false] m_read_numbers) := fun base => ⟨_, _, _, ok_read_numbers F_read_numbers T hK (X_NoText base) (G_read_number base), PySem.W.mg_of X G a_read_numbers, k_read_numbers, b_read_numbers⟩
  have F_law_read := fun_mk (st := s_law_read) l_law_read c_law_read k_law_read
  have b_law_read := F_law_read.binds (ps := ["_law_thing"]) fun _ _ _ _ _ _ us hl => match us, hl with | [_], _ => rfl
  have G_law_read : ∀ base, GFn P w K mg base "_law_read" 6 (spP O [false] m_law_read) := fun base => ⟨_, _, _, ok_law_read F_law_read T hK (X_NoText base) XF_row (G_read_numbers base), PySem.W.mg_of X G a_law_read, k_law_read, b_law_read⟩
  have F_law_right := fun_mk (st := s_law_right) l_law_right c_law_right k_law_right
  have b_law_right := F_law_right.binds (ps := ["_law_thing"]) fun _ _ _ _ _ _ us hl => match us, hl with | [_], _ => rfl
  have G_law_right : ∀ base, GFn P w K mg base "_law_right" 7 (spP O [false] m_law_right_2) := fun base => ⟨_, _, _, ok_law_right F_law_right T hK (G_law_due base) (G_law_read base), PySem.W.mg_of X G a_law_right, k_law_right, b_law_right⟩
  have F_show_number := fun_mk (st := s_show_number) l_show_number c_show_number k_show_number
  have b_show_number := F_show_number.binds (ps := ["number"]) fun _ _ _ _ _ _ us hl => match us, hl with | [_], _ => rfl
  have G_show_number : ∀ base, GFn P w K mg base "show_number" 2 (spP O [false] m_show_number) := fun base => ⟨_, _, _, ok_show_number F_show_number T hK , PySem.W.mg_of X G a_show_number, k_show_number, b_show_number⟩
  have F_show_numbers := fun_mk (st := s_show_numbers) l_show_numbers c_show_numbers k_show_numbers
  have b_show_numbers := F_show_numbers.binds (ps := ["numbers"]) fun _ _ _ _ _ _ us hl => match us, hl with | [_], _ => rfl
  have G_show_numbers : ∀ base, GFn P w K mg base "show_numbers" 3 (spP O [true] m_show_numbers) := fun base => ⟨_, _, _, ok_show_numbers F_show_numbers T hK (G_show_number base), PySem.W.mg_of X G a_show_numbers, k_show_numbers, b_show_numbers⟩
  have F_law := fun_mk (st := s_law) l_law c_law k_law
  exact ⟨_, fun s v => .of_eq rfl, fun base _ _ => (ok_law F_law T hK (G_law_drawn base) (G_law_numbers base) (G_read_numbers base) (G_law_right base) (G_show_numbers base)).imp (fun vs H Q E z => law_sp (O := O) (n := 63) (m := m_law_k85) law_k85_true vs H Q E z)⟩
end LK
open PySem PySem.W PyProof.Rows
set_option maxRecDepth 100000 in
set_option maxHeartbeats 0 in
theorem PySem.Challenge.cw_joinranks_k85_rows_of_numbers_holds : PySem.Challenge.rw_joinranks_k85_rows_of_numbers.Holds := by
  w_on; o_law; k_head; (case hw => w_witness2)
  k_fill
  refine JP.walk_law (l := PySem.Challenge.rw_joinranks_k85_rows_of_numbers) (k := 8) (x := "_law_script") rfl rfl ⟨rfl, by decide, by decide⟩ (fun w h Y => PySem.W.kIn_of Y) ?F
  case F =>
    intro w mg fa h KX G hmg
    refine' LK.all_mk KX G hmg ?z_bool ?z_enumerate ?z_int ?z_isinstance ?z_len ?z_list ?z_max ?z_range ?z_str ?q_FIGURES ?q_MOST_FIGURES ?eJ ?eJs ?eJr ?eJv ?e1_NoText ?e2_NoText ?e3_NoText ?e4_NoText ?e5_NoText ?e6_NoText ?e7_NoText ?e8_NoText ?e9_NoText ?ea_NoText ?eb_NoText ?ec_NoText ?ed_NoText ?ee_NoText ?ef_NoText ?eg0_NoText ?tn ?tt ?ta_NoText ?tm_NoText ?tf_NoText_row ?es_NoText_NoText ?a_law_drawn ?l_law_drawn ?c_law_drawn ?k_law_drawn ?a_law_numbers ?l_law_numbers ?c_law_numbers ?k_law_numbers ?a_law_number ?l_law_number ?c_law_number ?k_law_number ?a_law_due ?l_law_due ?c_law_due ?k_law_due ?a_writes_number ?l_writes_number ?c_writes_number ?k_writes_number ?a_read_number ?l_read_number ?c_read_number ?k_read_number ?a_read_numbers ?l_read_numbers ?c_read_numbers ?k_read_numbers ?a_law_read ?l_law_read ?c_law_read ?k_law_read ?a_law_right ?l_law_right ?c_law_right ?k_law_right ?a_show_number ?l_show_number ?c_show_number ?k_show_number ?a_show_numbers ?l_show_numbers ?c_show_numbers ?k_show_numbers ?a_law ?l_law ?c_law ?k_law
    (case z_bool => k_is)
    (case z_enumerate => k_is)
    (case z_int => k_is)
    (case z_isinstance => k_is)
    (case z_len => k_is)
    (case z_list => k_is)
    (case z_max => k_is)
    (case z_range => k_is)
    (case z_str => k_is)
    (case q_FIGURES => k_is)
    (case q_MOST_FIGURES => k_is)
    (case eJ => k_is)
    (case eJs => k_is)
    (case eJr => k_is)
    (case eJv => k_is)
    (case e1_NoText => k_is)
    (case e2_NoText => k_is)
    (case e3_NoText => decide +kernel)
    (case e4_NoText => k_is)
    (case e5_NoText => k_is)
    (case e6_NoText => k_is)
    (case e7_NoText => k_is)
    (case e8_NoText => k_is)
    (case e9_NoText => k_is)
    (case ea_NoText => k_is)
    (case eb_NoText => k_is)
    (case ec_NoText => k_is)
    (case ed_NoText => k_is)
    (case ee_NoText => k_is)
    (case ef_NoText => k_is)
    (case eg0_NoText => k_is)
    (case tn => k_is)
    (case tt => k_is)
    (case ta_NoText => k_is)
    (case tm_NoText => k_is)
    (case tf_NoText_row => k_is)
    (case es_NoText_NoText => first | k_is | rfl)
    (case a_law_drawn => k_is)
    (case l_law_drawn => k_is)
    (case c_law_drawn => k_is)
    (case k_law_drawn => k_is)
    (case a_law_numbers => k_is)
    (case l_law_numbers => k_is)
    (case c_law_numbers => k_is)
    (case k_law_numbers => k_is)
    (case a_law_number => k_is)
    (case l_law_number => k_is)
    (case c_law_number => k_is)
    (case k_law_number => k_is)
    (case a_law_due => k_is)
    (case l_law_due => k_is)
    (case c_law_due => k_is)
    (case k_law_due => k_is)
    (case a_writes_number => k_is)
    (case l_writes_number => k_is)
    (case c_writes_number => k_is)
    (case k_writes_number => k_is)
    (case a_read_number => k_is)
    (case l_read_number => k_is)
    (case c_read_number => k_is)
    (case k_read_number => k_is)
    (case a_read_numbers => k_is)
    (case l_read_numbers => k_is)
    (case c_read_numbers => k_is)
    (case k_read_numbers => k_is)
    (case a_law_read => k_is)
    (case l_law_read => k_is)
    (case c_law_read => k_is)
    (case k_law_read => k_is)
    (case a_law_right => k_is)
    (case l_law_right => k_is)
    (case c_law_right => k_is)
    (case k_law_right => k_is)
    (case a_show_number => k_is)
    (case l_show_number => k_is)
    (case c_show_number => k_is)
    (case k_show_number => k_is)
    (case a_show_numbers => k_is)
    (case l_show_numbers => k_is)
    (case c_show_numbers => k_is)
    (case k_show_numbers => k_is)
    (case a_law => k_is)
    (case l_law => k_is)
    (case c_law => k_is)
    (case k_law => k_is)

