import PyProof.Rows.All
import Wide.All
import OpenK.AllK
import Wide.FinOn
import HandS.ForMost
import HandS.ForExc
import HandS.IsInst
import HandS.Style
import HandS.Wide
import PyProof.ListStr
import HandS.Walk
import PyProof.Draws
import PyProof.EnumMake
import HandS.ExcInit
import HandS.ExcField
import HandS.StrMore
import HandS.Codes
import HandS.ExcIs
import PySem.Challenge.RW_joinranks_k01_numbers_written_and_read
set_option linter.all false
/-! JP1: plain data, what a reading of a Python text is worth over plain data (no heap, no program). -/
namespace JP
/-- plain data; a text is the list of its codes; ob k d: an object of kind k that never changes, by its content; scr: the script -/
inductive PV where
  | non | bl (b : Bool) | int (i : Int) | str (s : List Nat)
  | lst (xs : List PV) | tup (xs : List PV) | dct (kvs : List (PV × PV)) | ob (k : Nat) (d : PV) | scr (xs : List PV)
/-- an exception: its class's name, its fields -/
structure PX where
  cls : String
  fs : List (String × PV)
inductive R (α : Type) where
  | ok (a : α) | ex (e : PX) | bad
def R.bind {α β : Type} : R α → (α → R β) → R β
  | .ok a, f => f a
  | .ex e, _ => .ex e
  | .bad, _ => .bad
def ofO {α : Type} : Option α → R α
  | some a => .ok a
  | none => .bad
@[simp] theorem R.bind_ok {α β : Type} (a : α) (f : α → R β) : (R.ok a).bind f = f a := rfl
@[simp] theorem R.bind_ex {α β : Type} (e : PX) (f : α → R β) : (R.ex e).bind f = .ex e := rfl
@[simp] theorem R.bind_bad {α β : Type} (f : α → R β) : (R.bad).bind f = .bad := rfl
@[simp] theorem ofO_some {α : Type} (a : α) : ofO (some a) = .ok a := rfl
@[simp] theorem ofO_none {α : Type} : ofO (none : Option α) = .bad := rfl
/-- a slot of a frame: nothing known, a value, a borrowed value, a list of one's own, a caught error -/
inductive Sl where
  | u | v (p : PV) | b (p : PV) | o (xs : List PV) | x (e : PX)
abbrev Ev := List Sl
abbrev EX := Ev → R PV
abbrev AX := Ev → R (List PV)
inductive Ou where
  | nx (e : Ev) | rt (p : PV) | rf (xs : List PV) | bk (e : Ev) | ct (e : Ev) | ex (x : PX) (e : Ev) | bad
abbrev SX := Ev → Ou

/-! ### expressions -/
def eVar (i : Nat) : EX := fun env => match env[i]? with | some (.v p) => .ok p | _ => .bad
@[simp] theorem eVar_app (i : Nat) (env : Ev) : eVar i env = (match env[i]? with | some (.v p) => .ok p | _ => .bad) := rfl
def eBor (i : Nat) : EX := fun env => match env[i]? with | some (.v p) => .ok p | some (.b p) => .ok p | some (.o xs) => .ok (.lst xs) | _ => .bad
@[simp] theorem eBor_app (i : Nat) (env : Ev) : eBor i env = (match env[i]? with | some (.v p) => .ok p | some (.b p) => .ok p | some (.o xs) => .ok (.lst xs) | _ => .bad) := rfl
def eQ (i : Nat) : EX := fun env => match env[i]? with | some (.v p) => .ok p | some (.b p) => .ok p | _ => .bad
@[simp] theorem eQ_app (i : Nat) (env : Ev) : eQ i env = (match env[i]? with | some (.v p) => .ok p | some (.b p) => .ok p | _ => .bad) := rfl
def eC (p : PV) : EX := fun _ => .ok p
@[simp] theorem eC_app  (p : PV) (env : Ev) : eC p env = (.ok p) := rfl
def eOp (h : PV → PV → Option PV) (f g : EX) : EX := fun env => (f env).bind fun x => (g env).bind fun y => ofO (h x y)
@[simp] theorem eOp_app (h : PV → PV → Option PV) (f g : EX) (env : Ev) : eOp h f g env = ((f env).bind fun x => (g env).bind fun y => ofO (h x y)) := rfl
def eUn (h : PV → Option PV) (f : EX) : EX := fun env => (f env).bind fun x => ofO (h x)
@[simp] theorem eUn_app (h : PV → Option PV) (f : EX) (env : Ev) : eUn h f env = ((f env).bind fun x => ofO (h x)) := rfl
def aNil : AX := fun _ => .ok []
@[simp] theorem aNil_app  (env : Ev) : aNil  env = (.ok []) := rfl
def aCons (f : EX) (g : AX) : AX := fun env => (f env).bind fun x => (g env).bind fun xs => .ok (x :: xs)
@[simp] theorem aCons_app (f : EX) (g : AX) (env : Ev) : aCons f g env = ((f env).bind fun x => (g env).bind fun xs => .ok (x :: xs)) := rfl
def eCall (m : List PV → R PV) (a : AX) : EX := fun env => (a env).bind m
@[simp] theorem eCall_app (m : List PV → R PV) (a : AX) (env : Ev) : eCall m a env = ((a env).bind m) := rfl
def lCall (m : List PV → R (List PV)) (a : AX) : AX := fun env => (a env).bind m
@[simp] theorem lCall_app (m : List PV → R (List PV)) (a : AX) (env : Ev) : lCall m a env = ((a env).bind m) := rfl
def eTup (a : AX) : EX := fun env => (a env).bind fun xs => .ok (.tup xs)
@[simp] theorem eTup_app (a : AX) (env : Ev) : eTup a env = ((a env).bind fun xs => .ok (.tup xs)) := rfl
def eLst (a : AX) : EX := fun env => (a env).bind fun xs => .ok (.lst xs)
@[simp] theorem eLst_app (a : AX) (env : Ev) : eLst a env = ((a env).bind fun xs => .ok (.lst xs)) := rfl
def andK (x : PV) (r : R PV) : R PV := match x with | .bl true => r | .bl false => .ok (.bl false) | _ => .bad
@[simp] theorem andK_t (r : R PV) : andK (.bl true) r = r := rfl
@[simp] theorem andK_f (r : R PV) : andK (.bl false) r = .ok (.bl false) := rfl
@[simp] theorem andK_b (c d : Bool) : andK (.bl c) (.ok (.bl d)) = .ok (.bl (c && d)) := by cases c <;> rfl
def eAnd (f g : EX) : EX := fun env => (f env).bind fun x => andK x (g env)
@[simp] theorem eAnd_app (f g : EX) (env : Ev) : eAnd f g env = ((f env).bind fun x => andK x (g env)) := rfl
def orK (x : PV) (r : R PV) : R PV := match x with | .bl true => .ok (.bl true) | .bl false => r | _ => .bad
@[simp] theorem orK_t (r : R PV) : orK (.bl true) r = .ok (.bl true) := rfl
@[simp] theorem orK_f (r : R PV) : orK (.bl false) r = r := rfl
@[simp] theorem orK_b (c d : Bool) : orK (.bl c) (.ok (.bl d)) = .ok (.bl (c || d)) := by cases c <;> rfl
def eOr (f g : EX) : EX := fun env => (f env).bind fun x => orK x (g env)
@[simp] theorem eOr_app (f g : EX) (env : Ev) : eOr f g env = ((f env).bind fun x => orK x (g env)) := rfl
def notK (x : PV) : R PV := match x with | .bl c => .ok (.bl (!c)) | _ => .bad
@[simp] theorem notK_b (c : Bool) : notK (.bl c) = .ok (.bl (!c)) := rfl
def eNot (f : EX) : EX := fun env => (f env).bind notK
@[simp] theorem eNot_app (f : EX) (env : Ev) : eNot f env = ((f env).bind notK) := rfl
/-- a op b op' c -/
def eChain (h h' : PV → PV → Option PV) (f g k : EX) : EX := fun env => (f env).bind fun x => (g env).bind fun y => (ofO (h x y)).bind fun z => match z with | .bl true => (k env).bind fun w => ofO (h' y w) | .bl false => .ok (.bl false) | _ => .bad
@[simp] theorem eChain_app (h h' : PV → PV → Option PV) (f g k : EX) (env : Ev) : eChain h h' f g k env = ((f env).bind fun x => (g env).bind fun y => (ofO (h x y)).bind fun z => match z with | .bl true => (k env).bind fun w => ofO (h' y w) | .bl false => .ok (.bl false) | _ => .bad) := rfl

/-! ### statements -/
def thenO {α : Type} (r : R α) (env : Ev) (n : α → Ou) : Ou := match r with | .ok a => n a | .ex x => .ex x env | .bad => .bad
@[simp] theorem thenO_ok {α : Type} (a : α) (env : Ev) (n : α → Ou) : thenO (.ok a) env n = n a := rfl
@[simp] theorem thenO_ex {α : Type} (x : PX) (env : Ev) (n : α → Ou) : thenO (.ex x) env n = .ex x env := rfl
@[simp] theorem thenO_bad {α : Type} (env : Ev) (n : α → Ou) : thenO (.bad) env n = .bad := rfl
def seqO (o : Ou) (t : SX) : Ou := match o with | .nx e => t e | o => o
@[simp] theorem seqO_nx (e : Ev) (t : SX) : seqO (.nx e) t = t e := rfl
@[simp] theorem seqO_rt (p : PV) (t : SX) : seqO (.rt p) t = .rt p := rfl
@[simp] theorem seqO_rf (p : List PV) (t : SX) : seqO (.rf p) t = .rf p := rfl
@[simp] theorem seqO_ex (x : PX) (e : Ev) (t : SX) : seqO (.ex x e) t = .ex x e := rfl
@[simp] theorem seqO_bk (e : Ev) (t : SX) : seqO (.bk e) t = .bk e := rfl
@[simp] theorem seqO_ct (e : Ev) (t : SX) : seqO (.ct e) t = .ct e := rfl
@[simp] theorem seqO_bad (t : SX) : seqO (.bad) t = .bad := rfl
def sSeq (s t : SX) : SX := fun env => seqO (s env) t
@[simp] theorem sSeq_app (s t : SX) (env : Ev) : sSeq s t env = (seqO (s env) t) := rfl
def sNil : SX := fun env => .nx env
@[simp] theorem sNil_app  (env : Ev) : sNil  env = (.nx env) := rfl
def sAsg (i : Nat) (f : EX) : SX := fun env => thenO (f env) env fun p => .nx (env.set i (.v p))
@[simp] theorem sAsg_app (i : Nat) (f : EX) (env : Ev) : sAsg i f env = (thenO (f env) env fun p => .nx (env.set i (.v p))) := rfl
def sOwn (i : Nat) (f : AX) : SX := fun env => thenO (f env) env fun xs => .nx (env.set i (.o xs))
@[simp] theorem sOwn_app (i : Nat) (f : AX) (env : Ev) : sOwn i f env = (thenO (f env) env fun xs => .nx (env.set i (.o xs))) := rfl
def sRet (f : EX) : SX := fun env => thenO (f env) env fun p => .rt p
@[simp] theorem sRet_app (f : EX) (env : Ev) : sRet f env = (thenO (f env) env fun p => .rt p) := rfl
def sRetF (f : AX) : SX := fun env => thenO (f env) env fun p => .rf p
@[simp] theorem sRetF_app (f : AX) (env : Ev) : sRetF f env = (thenO (f env) env fun p => .rf p) := rfl
def sRetO (i : Nat) : SX := fun env => match env[i]? with | some (.o xs) => .rf xs | _ => .bad
@[simp] theorem sRetO_app (i : Nat) (env : Ev) : sRetO i env = (match env[i]? with | some (.o xs) => .rf xs | _ => .bad) := rfl
def sExp (f : EX) : SX := fun env => thenO (f env) env fun _ => .nx env
@[simp] theorem sExp_app (f : EX) (env : Ev) : sExp f env = (thenO (f env) env fun _ => .nx env) := rfl
def ifS (p : PV) (s t : SX) (env : Ev) : Ou := match p with | .bl true => s env | .bl false => t env | _ => .bad
@[simp] theorem ifS_t (s t : SX) (env : Ev) : ifS (.bl true) s t env = s env := rfl
@[simp] theorem ifS_f (s t : SX) (env : Ev) : ifS (.bl false) s t env = t env := rfl
theorem ifS_b (c : Bool) (s t : SX) (env : Ev) : ifS (.bl c) s t env = if c = true then s env else t env := by cases c <;> rfl
def sIf (f : EX) (s t : SX) : SX := fun env => thenO (f env) env fun p => ifS p s t env
@[simp] theorem sIf_app (f : EX) (s t : SX) (env : Ev) : sIf f s t env = (thenO (f env) env fun p => ifS p s t env) := rfl
def sBrk : SX := fun env => .bk env
@[simp] theorem sBrk_app  (env : Ev) : sBrk  env = (.bk env) := rfl
def sCnt : SX := fun env => .ct env
@[simp] theorem sCnt_app  (env : Ev) : sCnt  env = (.ct env) := rfl
def sRaise (c : String) (fs : List String) (a : AX) : SX := fun env => thenO (a env) env fun ps => .ex ⟨c, fs.zip ps⟩ env
@[simp] theorem sRaise_app (c : String) (fs : List String) (a : AX) (env : Ev) : sRaise c fs a env = (thenO (a env) env fun ps => .ex ⟨c, fs.zip ps⟩ env) := rfl
/-- what is one's own becomes a value -/
@[simp] def frz (i : Nat) (env : Ev) : Ev := match env[i]? with | some (.o xs) => env.set i (.v (.lst xs)) | _ => env
def sFrz (i : Nat) (s : SX) : SX := fun env => s (frz i env)
@[simp] theorem sFrz_app (i : Nat) (s : SX) (env : Ev) : sFrz i s env = (s (frz i env)) := rfl
def sApp (i : Nat) (f : EX) : SX := fun env => match env[i]? with
  | some (.o xs) => thenO (f env) env fun p => if xs.length < 1000000 then .nx (env.set i (.o (xs ++ [p]))) else .bad
  | _ => .bad
@[simp] theorem sApp_app (i : Nat) (f : EX) (env : Ev) : sApp i f env = (match env[i]? with
  | some (.o xs) => thenO (f env) env fun p => if xs.length < 1000000 then .nx (env.set i (.o (xs ++ [p]))) else .bad
  | _ => .bad) := rfl
/-- the list in slot i made another one, without arguments: reverse, clear -/
def sMut (i : Nat) (h : List PV → List PV) : SX := fun env => match env[i]? with | some (.o xs) => .nx (env.set i (.o (h xs))) | _ => .bad
@[simp] theorem sMut_app (i : Nat) (h : List PV → List PV) (env : Ev) : sMut i h env = (match env[i]? with | some (.o xs) => .nx (env.set i (.o (h xs))) | _ => .bad) := rfl
abbrev BX := PV → Ev → R Ev
def bName (i : Nat) : BX := fun p env => .ok (env.set i (.v p))
@[simp] theorem bName_app (i : Nat) (p : PV) (env : Ev) : bName i p env = (.ok (env.set i (.v p))) := rfl
def bTup2 (i j : Nat) : BX := fun p env => match p with | .tup [x, y] => .ok ((env.set i (.v x)).set j (.v y)) | _ => .bad
@[simp] theorem bTup2_app (i j : Nat) (p : PV) (env : Ev) : bTup2 i j p env = (match p with | .tup [x, y] => .ok ((env.set i (.v x)).set j (.v y)) | _ => .bad) := rfl
def forF (b : BX) (s : SX) : List PV → Ev → Ou
  | [], env => .nx env
  | p :: ps, env => match b p env with
    | .ok e => (match s e with | .nx e' => forF b s ps e' | .ct e' => forF b s ps e' | .bk e' => .nx e' | o => o)
    | _ => .bad
def sFor (b : BX) (it : AX) (s : SX) : SX := fun env => thenO (it env) env fun ps => forF b s ps env
theorem sFor_app (b : BX) (it : AX) (s : SX) (env : Ev) : sFor b it s env = (thenO (it env) env fun ps => forF b s ps env) := rfl
def sUnp (b : BX) (f : EX) : SX := fun env => thenO (f env) env fun p => match b p env with | .ok e => .nx e | _ => .bad
@[simp] theorem sUnp_app (b : BX) (f : EX) (env : Ev) : sUnp b f env = (thenO (f env) env fun p => match b p env with | .ok e => .nx e | _ => .bad) := rfl
def whF (f : EX) (s : SX) : Nat → Ev → Ou
  | 0, _ => .bad
  | n + 1, env => match f env with
    | .ok (.bl true) => (match s env with | .nx e => whF f s n e | .ct e => whF f s n e | .bk e => .nx e | o => o)
    | .ok (.bl false) => .nx env
    | .ex x => .ex x env
    | _ => .bad
open Classical in
noncomputable def sWh (f : EX) (s : SX) : SX := fun env => if h : ∃ n, whF f s n env ≠ .bad then whF f s (choose h) env else .bad
theorem whF_more (f : EX) (s : SX) : ∀ (n m : Nat) (env : Ev), n ≤ m → whF f s n env ≠ .bad → whF f s m env = whF f s n env
  | 0, _, env, _, h => (h rfl).elim
  | n + 1, 0, env, hm, _ => absurd hm (by omega)
  | n + 1, m + 1, env, hm, h => by
    unfold whF at h ⊢
    cases e : f env with
    | bad => rfl
    | ex x => rfl
    | ok p =>
      rw [e] at h
      cases p with
      | bl b =>
        cases b with
        | false => rfl
        | true =>
          dsimp only at h ⊢
          cases e2 : s env with
          | nx e' =>
            rw [e2] at h
            exact whF_more f s n m e' (by omega) h
          | ct e' =>
            rw [e2] at h
            exact whF_more f s n m e' (by omega) h
          | _ => rfl
      | _ => rfl
theorem sWh_eq {f : EX} {s : SX} {env : Ev} {o : Ou} (n : Nat) (h : whF f s n env = o) (ho : o ≠ .bad) : sWh f s env = o := by
  have hx : ∃ n, whF f s n env ≠ .bad := ⟨n, by rw [h]; exact ho⟩
  unfold sWh
  rw [dif_pos hx]
  have h1 := Classical.choose_spec hx
  have a := whF_more f s (Classical.choose hx) (max (Classical.choose hx) n) env (by omega) h1
  have b := whF_more f s n (max (Classical.choose hx) n) env (by omega) (by rw [h]; exact ho)
  rw [← a, b, h]
theorem sWh_out {f : EX} {s : SX} {env : Ev} (ho : sWh f s env ≠ .bad) : ∃ n, whF f s n env = sWh f s env := by
  unfold sWh at ho ⊢
  by_cases h : ∃ n, whF f s n env ≠ .bad
  · rw [dif_pos h]
    exact ⟨_, rfl⟩
  · rw [dif_neg h] at ho
    exact (ho rfl).elim
/-- is an error of the class c one of the class h -/
@[simp] def subX (c h : String) : Bool := c == h || h == "JoinError" || h == "ValueError"
@[simp] def noX (e : Ev) : Bool := e.all fun s => match s with | .x _ => false | _ => true
/-- behind an except suite: its name is gone -/
@[simp] def unX (i : Nat) : Ou → Ou
  | .nx e => if noX (e.set i .u) then .nx (e.set i .u) else .bad
  | .bk e => if noX (e.set i .u) then .bk (e.set i .u) else .bad
  | .ct e => if noX (e.set i .u) then .ct (e.set i .u) else .bad
  | .rt p => .rt p
  | .rf p => .rf p
  | _ => .bad
/-- try: s, except h as slot i: t -/
def tryK (o : Ou) (i : Nat) (h : String) (t : SX) : Ou := match o with
  | .ex x e => if subX x.cls h then (if noX e then unX i (t (e.set i (.x x))) else .bad) else .ex x e
  | o => o
@[simp] theorem tryK_nx (e : Ev) (i : Nat) (h : String) (t : SX) : tryK (.nx e) i h t = .nx e := rfl
@[simp] theorem tryK_rt (e : PV) (i : Nat) (h : String) (t : SX) : tryK (.rt e) i h t = .rt e := rfl
@[simp] theorem tryK_rf (e : List PV) (i : Nat) (h : String) (t : SX) : tryK (.rf e) i h t = .rf e := rfl
@[simp] theorem tryK_bk (e : Ev) (i : Nat) (h : String) (t : SX) : tryK (.bk e) i h t = .bk e := rfl
@[simp] theorem tryK_ct (e : Ev) (i : Nat) (h : String) (t : SX) : tryK (.ct e) i h t = .ct e := rfl
@[simp] theorem tryK_bad (i : Nat) (h : String) (t : SX) : tryK .bad i h t = .bad := rfl
@[simp] theorem tryK_ex (x : PX) (e : Ev) (i : Nat) (h : String) (t : SX) : tryK (.ex x e) i h t = if subX x.cls h then (if noX e then unX i (t (e.set i (.x x))) else .bad) else .ex x e := rfl
def sTry (i : Nat) (s : SX) (h : String) (t : SX) : SX := fun env => tryK (s env) i h t
@[simp] theorem sTry_app (i : Nat) (s : SX) (h : String) (t : SX) (env : Ev) : sTry i s h t env = tryK (s env) i h t := rfl
/-- a field of the caught error, an error of the class h -/
def eFld (i : Nat) (h f : String) : EX := fun env => match env[i]? with
  | some (.x e) => if e.cls = h then (match e.fs.lookup f with | some p => .ok p | none => .bad) else .bad
  | _ => .bad
@[simp] theorem eFld_app (i : Nat) (h f : String) (env : Ev) : eFld i h f env = (match env[i]? with
  | some (.x e) => if e.cls = h then (match e.fs.lookup f with | some p => .ok p | none => .bad) else .bad
  | _ => .bad) := rfl
def compF (b : BX) (t f : EX) : List PV → Ev → R (List PV)
  | [], _ => .ok []
  | p :: ps, env => match b p env with
    | .ok e => (match t e with
      | .ok (.bl true) => (match f e with | .ok y => (match compF b t f ps env with | .ok r => .ok (y :: r) | _ => .bad) | _ => .bad)
      | .ok (.bl false) => compF b t f ps env
      | _ => .bad)
    | _ => .bad
/-- the slots of a comprehension's own names are empty within it -/
@[simp] def wipeE (env : Ev) (is : List Nat) : Ev := is.foldl (fun e i => e.set i .u) env
def aComp (is : List Nat) (b : BX) (it : AX) (t f : EX) : AX := fun env => match it env with | .ok ps => compF b t f ps (wipeE env is) | .ex x => .ex x | .bad => .bad
@[simp] theorem aComp_app (is : List Nat) (b : BX) (it : AX) (t f : EX) (env : Ev) : aComp is b it t f env = (match it env with | .ok ps => compF b t f ps (wipeE env is) | .ex x => .ex x | .bad => .bad) := rfl

/-! ### a def -/
@[simp] def env0 (n : Nat) (ps : List Sl) : Ev := ps ++ List.replicate (n - ps.length) .u
/-- its answer -/
def outP : Ou → R PV
  | .rt p => .ok p
  | .nx _ => .ok .non
  | .ex x _ => .ex x
  | _ => .bad
@[simp] theorem outP_rt (p : PV) : outP (.rt p) = .ok p := rfl
@[simp] theorem outP_nx (e : Ev) : outP (.nx e) = .ok .non := rfl
@[simp] theorem outP_ex (x : PX) (e : Ev) : outP (.ex x e) = .ex x := rfl
@[simp] theorem outP_bad : outP .bad = .bad := rfl
@[simp] def runP (s : SX) (env : Ev) : R PV := outP (s env)
/-- .. where it answers by a new list -/
def outF : Ou → R (List PV)
  | .rf p => .ok p
  | .ex x _ => .ex x
  | _ => .bad
@[simp] theorem outF_rf (p : List PV) : outF (.rf p) = .ok p := rfl
@[simp] theorem outF_ex (x : PX) (e : Ev) : outF (.ex x e) = .ex x := rfl
@[simp] theorem outF_bad : outF .bad = .bad := rfl
@[simp] def runF (s : SX) (env : Ev) : R (List PV) := outF (s env)
/-- modes of parameters: true borrowed -/
@[simp] def argS : List Bool → List PV → List Sl
  | true :: bs, p :: ps => .b p :: argS bs ps
  | false :: bs, p :: ps => .v p :: argS bs ps
  | _, _ => []
@[simp] def mkP (n : Nat) (md : List Bool) (s : SX) (ps : List PV) : R PV := if ps.length = md.length then runP s (env0 n (argS md ps)) else .bad
@[simp] def mkF (n : Nat) (md : List Bool) (s : SX) (ps : List PV) : R (List PV) := if ps.length = md.length then runF s (env0 n (argS md ps)) else .bad

/-! ### operators -/
def smallI (a : Int) : Bool := decide (-(2 ^ 64) < a ∧ a < 2 ^ 64)
def wideI (a : Int) : Bool := decide (a.natAbs < 2 ^ 4000)
@[simp] def pAdd : PV → PV → Option PV
  | .int a, .int b => some (.int (a + b))
  | .str a, .str b => if a.length + b.length ≤ 1000000 then some (.str (a ++ b)) else none
  | _, _ => none
@[simp] def pSub : PV → PV → Option PV
  | .int a, .int b => some (.int (a - b))
  | _, _ => none
@[simp] def pMul : PV → PV → Option PV
  | .int a, .int b => if smallI a || smallI b || (wideI a && wideI b) then some (.int (a * b)) else none
  | _, _ => none
@[simp] def pMod : PV → PV → Option PV
  | .int a, .int b => if 0 < b then some (.int (a % b)) else none
  | _, _ => none
@[simp] def pDiv : PV → PV → Option PV
  | .int a, .int b => if 0 < b && wideI b then some (.int (a / b)) else none
  | _, _ => none
@[simp] def pPow : PV → PV → Option PV
  | .int a, .int b => if 0 ≤ b && b ≤ 1000 && smallI a then some (.int (a ^ b.toNat)) else none
  | _, _ => none
@[simp] def pNeg : PV → Option PV
  | .int a => some (.int (-a))
  | _ => none
@[simp] def pLt : PV → PV → Option PV
  | .int a, .int b => some (.bl (decide (a < b)))
  | _, _ => none
@[simp] def pLe : PV → PV → Option PV
  | .int a, .int b => some (.bl (decide (a ≤ b)))
  | _, _ => none
@[simp] def pGt : PV → PV → Option PV
  | .int a, .int b => some (.bl (decide (b < a)))
  | _, _ => none
@[simp] def pGe : PV → PV → Option PV
  | .int a, .int b => some (.bl (decide (b ≤ a)))
  | _, _ => none
mutual
@[simp] def eqP : PV → PV → Bool
  | .non, .non => true
  | .bl a, .bl b => a == b
  | .bl a, .int b => (if a then 1 else 0) == b
  | .int a, .bl b => a == (if b then 1 else 0)
  | .int a, .int b => a == b
  | .str a, .str b => a == b
  | .lst a, .lst b => eqPs a b
  | .tup a, .tup b => eqPs a b
  | _, _ => false
@[simp] def eqPs : List PV → List PV → Bool
  | [], [] => true
  | a :: as, b :: bs => eqP a b && eqPs as bs
  | _, _ => false
end
mutual
/-- data without dicts and objects, at most so deep -/
@[simp] def datP : PV → Bool
  | .non => true | .bl _ => true | .int _ => true | .str _ => true
  | .lst xs => datPs xs
  | .tup xs => datPs xs
  | _ => false
@[simp] def datPs : List PV → Bool
  | [] => true
  | x :: xs => datP x && datPs xs
end
mutual
@[simp] def depP : PV → Nat
  | .lst xs => depPs xs + 1
  | .tup xs => depPs xs + 1
  | _ => 0
@[simp] def depPs : List PV → Nat
  | [] => 0
  | x :: xs => max (depP x) (depPs xs)
end
@[simp] def shp (p : PV) : Bool := datP p && decide (depP p ≤ 64)
@[simp] def pEq (p q : PV) : Option PV := if shp p && shp q then some (.bl (eqP p q)) else none
@[simp] def pNe (p q : PV) : Option PV := if shp p && shp q then some (.bl (!eqP p q)) else none
@[simp] def isNon : PV → Bool
  | .non => true
  | _ => false
@[simp] def pIsN (p : PV) : Option PV := some (.bl (isNon p))
@[simp] def pNotN (p : PV) : Option PV := some (.bl (!isNon p))
/-- is True, is not True, is False .. of a truth -/
@[simp] def pIsB (c : Bool) : PV → Option PV
  | .bl b => some (.bl (b == c))
  | _ => none
@[simp] def pNotB (c : Bool) : PV → Option PV
  | .bl b => some (.bl (!(b == c)))
  | _ => none
/-- one sign in a text -/
@[simp] def pInS : PV → PV → Option PV
  | .str [c], .str s => some (.bl (decide (c ∈ s)))
  | _, _ => none
@[simp] def pNinS : PV → PV → Option PV
  | .str [c], .str s => some (.bl (!decide (c ∈ s)))
  | _, _ => none
@[simp] def pLen : PV → Option PV
  | .str s => if s.length ≤ 1000000 then some (.int s.length) else none
  | .lst xs => some (.int xs.length)
  | .scr xs => some (.int xs.length)
  | .tup xs => some (.int xs.length)
  | _ => none
/-- a place by an index of either sign -/
def atN {α : Type} (xs : List α) (i : Int) : Option α := if 0 ≤ i then xs[i.toNat]? else if -(xs.length : Int) ≤ i then xs[(i + xs.length).toNat]? else none
@[simp] def pIx : PV → PV → Option PV
  | .lst xs, .int i => atN xs i
  | .scr xs, .int i => atN xs i
  | .tup xs, .int i => atN xs i
  | .str s, .int i => if s.length ≤ 1000000 then (match atN s i with | some c => some (.str [c]) | none => none) else none
  | _, _ => none
/-- the bounds of a slice -/
def clampI (n : Nat) (i : Int) : Nat := if i < 0 then (i + n).toNat else min i.toNat n
def loI (n : Nat) : Option Int → Nat
  | none => 0
  | some i => clampI n i
def hiI (n : Nat) : Option Int → Nat
  | none => n
  | some i => clampI n i
def cutN {α : Type} (xs : List α) (lo hi : Option Int) : List α := (xs.drop (loI xs.length lo)).take (hiI xs.length hi - loI xs.length lo)
abbrev OX := Ev → R (Option Int)
def oNo : OX := fun _ => .ok none
@[simp] theorem oNo_app  (env : Ev) : oNo  env = (.ok none) := rfl
def oSome (f : EX) : OX := fun env => (f env).bind fun p => match p with | .int i => .ok (some i) | _ => .bad
@[simp] theorem oSome_app (f : EX) (env : Ev) : oSome f env = ((f env).bind fun p => match p with | .int i => .ok (some i) | _ => .bad) := rfl
@[simp] def cutS : PV → Option Int → Option Int → Option PV
  | .str s, a, b => if s.length ≤ 1000000 then some (.str (cutN s a b)) else none
  | _, _, _ => none
def eSlS (f : EX) (lo hi : OX) : EX := fun env => (f env).bind fun x => (lo env).bind fun a => (hi env).bind fun b => ofO (cutS x a b)
@[simp] theorem eSlS_app (f : EX) (lo hi : OX) (env : Ev) : eSlS f lo hi env = ((f env).bind fun x => (lo env).bind fun a => (hi env).bind fun b => ofO (cutS x a b)) := rfl
@[simp] def cutL : PV → Option Int → Option Int → Option (List PV)
  | .lst xs, a, b => some (cutN xs a b)
  | .scr xs, a, b => some (cutN xs a b)
  | _, _, _ => none
def lSl (f : EX) (lo hi : OX) : AX := fun env => (f env).bind fun x => (lo env).bind fun a => (hi env).bind fun b => ofO (cutL x a b)
@[simp] theorem lSl_app (f : EX) (lo hi : OX) (env : Ev) : lSl f lo hi env = ((f env).bind fun x => (lo env).bind fun a => (hi env).bind fun b => ofO (cutL x a b)) := rfl
/-- a new list of what is handed in -/
@[simp] def lOf : PV → Option (List PV)
  | .lst xs => some xs
  | .scr xs => some xs
  | .tup xs => some xs
  | .str s => if s.length ≤ 1000000 then some (s.map fun c => .str [c]) else none
  | _ => none
def lUn (h : PV → Option (List PV)) (f : EX) : AX := fun env => (f env).bind fun x => ofO (h x)
@[simp] theorem lUn_app (h : PV → Option (List PV)) (f : EX) (env : Ev) : lUn h f env = ((f env).bind fun x => ofO (h x)) := rfl
def lOp (h : PV → PV → Option (List PV)) (f g : EX) : AX := fun env => (f env).bind fun x => (g env).bind fun y => ofO (h x y)
@[simp] theorem lOp_app (h : PV → PV → Option (List PV)) (f g : EX) (env : Ev) : lOp h f g env = ((f env).bind fun x => (g env).bind fun y => ofO (h x y)) := rfl
@[simp] def lCat : PV → PV → Option (List PV)
  | .lst xs, .lst ys => if xs.length + ys.length ≤ 1000000 then some (xs ++ ys) else none
  | _, _ => none
@[simp] def lRep : PV → PV → Option (List PV)
  | .lst xs, .int n => if 0 ≤ n && n ≤ 1000000 && xs.length * n.toNat ≤ 1000000 then some (List.replicate n.toNat xs).flatten else none
  | _, _ => none
/-- what a for walks -/
@[simp] def iSeq : PV → Option (List PV)
  | .lst xs => some xs
  | .scr xs => some xs
  | _ => none
@[simp] def iTxt : PV → Option (List PV)
  | .str s => some (s.map fun c => .str [c])
  | _ => none
def enumP : Nat → List PV → List PV
  | _, [] => []
  | n, x :: xs => .tup [.int n, x] :: enumP (n + 1) xs
@[simp] def iEnL : PV → Option (List PV)
  | .lst xs => some (enumP 0 xs)
  | .scr xs => some (enumP 0 xs)
  | _ => none
@[simp] def iEnS : PV → Option (List PV)
  | .str s => some (enumP 0 (s.map fun c => .str [c]))
  | _ => none
def rngP (lo : Int) (n : Nat) : List PV := (List.range n).map fun k => .int (lo + (k : Nat))
@[simp] def iRn1 : PV → Option (List PV)
  | .int n => if -(2 ^ 62) ≤ n && n < 2 ^ 62 then some (rngP 0 n.toNat) else none
  | _ => none
@[simp] def iRn2 : PV → PV → Option (List PV)
  | .int a, .int b => if -(2 ^ 62) ≤ a && a < 2 ^ 62 && -(2 ^ 62) ≤ b && b < 2 ^ 62 then some (rngP a (b - a).toNat) else none
  | _, _ => none
/-- isinstance of a built-in class -/
@[simp] def tyN : PV → String
  | .non => "NoneType"
  | .bl _ => "bool"
  | .int _ => "int"
  | .str _ => "str"
  | .lst _ => "list"
  | .tup _ => "tuple"
  | .dct _ => "dict"
  | .ob _ _ => "object"
  | .scr _ => "list"
@[simp] def isTyN (c n : String) : Bool := c == n || (c == "int" && n == "bool")
@[simp] def isTy (c : String) (p : PV) : Bool := isTyN c (tyN p)
@[simp] def tyP : PV → Bool
  | .ob _ _ => false
  | .scr _ => false
  | _ => true
@[simp] def pIsi (t : String) (p : PV) : Option PV := if tyP p then some (.bl (isTy t p)) else none
@[simp] def pMax2 : PV → PV → Option PV
  | .int a, .int b => some (.int (if b > a then b else a))
  | _, _ => none
@[simp] def pMin2 : PV → PV → Option PV
  | .int a, .int b => some (.int (if b < a then b else a))
  | _, _ => none
/-- the figures of a number -/
def numD (n : Nat) : List Nat := (Nat.toDigits 10 n).map Char.toNat
def digS (s : List Nat) : Bool := s.all fun c => decide (48 ≤ c) && decide (c ≤ 57)
def valS (s : List Nat) : Nat := s.foldl (fun acc c => acc * 10 + (c - 48)) 0
def bigI : Int := 10 ^ 200
@[simp] def pStr : PV → Option PV
  | .int i => if 0 ≤ i && i < bigI then some (.str (numD i.toNat)) else none
  | _ => none
@[simp] def pInt : PV → Option PV
  | .str s => if digS s && !s.isEmpty && s.length ≤ 600 then some (.int (valS s)) else none
  | _ => none
def eFrz (f : AX) : EX := fun env => (f env).bind fun xs => .ok (.lst xs)
@[simp] theorem eFrz_app (f : AX) (env : Ev) : eFrz f env = ((f env).bind fun xs => .ok (.lst xs)) := rfl
/-- is None as an operator of two -/
@[simp] def pIs2 : PV → PV → Option PV
  | p, .non => some (.bl (isNon p))
  | .bl a, .bl b => some (.bl (a == b))
  | _, _ => none
@[simp] def pNot2 : PV → PV → Option PV
  | p, .non => some (.bl (!isNon p))
  | .bl a, .bl b => some (.bl (!(a == b)))
  | _, _ => none
def eCB (h : List PV → Option PV) (fa : AX) : EX := fun env => (fa env).bind fun ps => ofO (h ps)
@[simp] theorem eCB_app (h : List PV → Option PV) (fa : AX) (env : Ev) : eCB h fa env = ((fa env).bind fun ps => ofO (h ps)) := rfl
def lCB (h : List PV → Option (List PV)) (fa : AX) : AX := fun env => (fa env).bind fun ps => ofO (h ps)
@[simp] theorem lCB_app (h : List PV → Option (List PV)) (fa : AX) (env : Ev) : lCB h fa env = ((fa env).bind fun ps => ofO (h ps)) := rfl
/-- one argument, two -/
@[simp] def on1 {α : Type} (h : PV → Option α) : List PV → Option α
  | [p] => h p
  | _ => none
@[simp] def on2 {α : Type} (h : PV → PV → Option α) : List PV → Option α
  | [p, q] => h p q
  | _ => none
@[simp] def isOb (kd : Nat) : PV → Bool
  | .ob k _ => k == kd
  | _ => false
def eMeth (kd : Nat) (m : List PV → R PV) (fo : EX) (fa : AX) : EX := fun env => (fo env).bind fun x => if isOb kd x then (fa env).bind fun ps => m (x :: ps) else .bad
@[simp] theorem eMeth_app (kd : Nat) (m : List PV → R PV) (fo : EX) (fa : AX) (env : Ev) : eMeth kd m fo fa env = ((fo env).bind fun x => if isOb kd x then (fa env).bind fun ps => m (x :: ps) else .bad) := rfl
def lMeth (kd : Nat) (m : List PV → R (List PV)) (fo : EX) (fa : AX) : AX := fun env => (fo env).bind fun x => if isOb kd x then (fa env).bind fun ps => m (x :: ps) else .bad
@[simp] theorem lMeth_app (kd : Nat) (m : List PV → R (List PV)) (fo : EX) (fa : AX) (env : Ev) : lMeth kd m fo fa env = ((fo env).bind fun x => if isOb kd x then (fa env).bind fun ps => m (x :: ps) else .bad) := rfl
/-- the place of a figure among the figures -/
@[simp] def pIdx10 : PV → Option PV
  | .str [c] => if 48 ≤ c && c ≤ 57 then some (.int ((c : Int) - 48)) else none
  | _ => none
def sAug (h : PV → PV → Option PV) (i : Nat) (f : EX) : SX := fun env => match env[i]? with
  | some (.v p) => thenO (f env) env fun q => match h p q with | some z => .nx (env.set i (.v z)) | none => .bad
  | _ => .bad
@[simp] theorem sAug_app (h : PV → PV → Option PV) (i : Nat) (f : EX) (env : Ev) : sAug h i f env = (match env[i]? with
  | some (.v p) => thenO (f env) env fun q => match h p q with | some z => .nx (env.set i (.v z)) | none => .bad
  | _ => .bad) := rfl
end JP

set_option Elab.async false
set_option linter.all false
set_option maxRecDepth 100000
/-! JP2: plain data in the abstract heap; what a reading by plain data promises. -/
namespace JP
open PySem L2
/-- what is known of places for good: each by what holds of its object -/
abbrev Wd := Addr → Option (HO → Prop)
def Wle (W W' : Wd) : Prop := ∀ a f, W a = some f → W' a = some f
theorem Wle.refl (W : Wd) : Wle W W := fun _ _ h => h
theorem Wle.trans {W W1 W2 : Wd} (a : Wle W W1) (b : Wle W1 W2) : Wle W W2 := fun x f h => b x f (a x f h)
def Hold (W : Wd) (H : Hp) : Prop := ∀ a f, W a = some f → ∃ o, H a = some o ∧ f o
def Exa (f : HO → Prop) : Prop := ∀ o o', f o → f o' → o = o'
structure Stp (W : Wd) (H : Hp) (W' : Wd) (H' : Hp) : Prop where
  le : Wle W W'
  ho : Hold W' H'
  kp : ∀ a o, H a = some o → (∀ f, W a = some f → Exa f) → H' a = some o
  nw : ∀ a f, W' a = some f → W a = some f ∨ H a = none
theorem Stp.refl {W : Wd} {H : Hp} (h : Hold W H) : Stp W H W H := ⟨Wle.refl W, h, fun _ _ e _ => e, fun _ _ e => .inl e⟩
theorem Stp.back {W W' : Wd} {H H' : Hp} (hW : Hold W H) (s : Stp W H W' H') {p : Addr} (h : H' p = none) : H p = none := by
  cases e : H p with
  | none => rfl
  | some o =>
    cases w : W p with
    | none =>
      have q := s.kp p o e (fun f z => by rw [w] at z; cases z)
      rw [h] at q; cases q
    | some f =>
      obtain ⟨o', q, _⟩ := s.ho p f (s.le p f w)
      rw [h] at q; cases q
theorem Stp.trans {W W1 W2 : Wd} {H H1 H2 : Hp} (h0 : Hold W H) (a : Stp W H W1 H1) (b : Stp W1 H1 W2 H2) : Stp W H W2 H2 where
  le := a.le.trans b.le
  ho := b.ho
  kp := fun x o e z => b.kp x o (a.kp x o e z) fun f q => (a.nw x f q).elim (z f) fun n => by rw [e] at n; cases n
  nw := fun x f e => (b.nw x f e).elim (a.nw x f) fun n => .inr (a.back h0 n)
/-- W with the object o at a for good -/
def putW (W : Wd) (a : Addr) (o : HO) : Wd := fun b => if b = a then some (fun x => x = o) else W b
theorem putW_same {W : Wd} {a : Addr} {o : HO} : putW W a o a = some (fun x => x = o) := if_pos rfl
theorem putW_ne {W : Wd} {a b : Addr} {o : HO} (h : b ≠ a) : putW W a o b = W b := if_neg h
theorem Hold.none {W : Wd} {H : Hp} (h : Hold W H) {a : Addr} (n : H a = none) : W a = none := by
  cases w : W a with
  | none => rfl
  | some f =>
    obtain ⟨o, e, _⟩ := h a f w
    rw [n] at e; cases e
theorem Wle.put {W : Wd} {a : Addr} {o : HO} (n : W a = none) : Wle W (putW W a o) := fun b f e => by
  rw [putW_ne (fun z => by rw [z, n] at e; cases e)]; exact e
/-- a new object, for good -/
theorem Stp.new {W : Wd} {H : Hp} (h : Hold W H) {a : Addr} {o : HO} (n : H a = none) : Stp W H (putW W a o) (upd H a o) where
  le := Wle.put (h.none n)
  ho := fun b f e => by
    by_cases hb : b = a
    · subst hb
      rw [putW_same] at e; cases e
      exact ⟨o, upd_same, rfl⟩
    · rw [putW_ne hb] at e
      rw [upd_ne hb]
      exact h b f e
  kp := fun b u e _ => by rw [upd_ne (ne_of_none e n)]; exact e
  nw := fun b f e => by
    by_cases hb : b = a
    · subst hb; exact .inr n
    · rw [putW_ne hb] at e; exact .inl e
/-- a new object, not for good -/
theorem Stp.new0 {W : Wd} {H : Hp} (h : Hold W H) {a : Addr} {o : HO} (n : H a = none) : Stp W H W (upd H a o) where
  le := Wle.refl W
  ho := fun b f e => by
    have hb : b ≠ a := fun z => by rw [z, h.none n] at e; cases e
    rw [upd_ne hb]
    exact h b f e
  kp := fun b u e _ => by rw [upd_ne (ne_of_none e n)]; exact e
  nw := fun b f e => .inl e

/-- the objects of the text, the classes of errors -/
structure ObS where
  K : PySem.W.Frag
  cl : String → Option Addr
  rep : Nat → PV → Wd → Addr → Prop
  mono : ∀ k d W W' a, Wle W W' → rep k d W a → rep k d W' a
def tx (s : List Nat) : Str := ⟨s.toArray⟩
theorem tx_inj {s t : List Nat} (h : tx s = tx t) : s = t := by
  have e : s.toArray = t.toArray := congrArg Str.cps h
  simpa using congrArg Array.toList e
theorem tx_len (s : List Nat) : (tx s).length = s.length := by simp [tx, Str.length]
theorem tx_app (s t : List Nat) : tx s ++ tx t = tx (s ++ t) := by
  show Str.append (tx s) (tx t) = tx (s ++ t)
  simp [tx, Str.append]
abbrev okS (s : List Nat) : Prop := ∀ c ∈ s, c < 1114112
def Rdl (o : HO) (vs : List V) : Prop := o = .lst vs ∨ ∃ ob, o = .frz ob (.lst vs)
def ScR (O : ObS) (W : Wd) (a : Addr) (vs : List V) : Prop := (∃ f, W a = some f ∧ ∀ o, f o → Rdl o vs) ∨ SqL O.K (fun _ => none) a vs
def LsR (O : ObS) (W : Wd) (a : Addr) (vs : List V) : Prop := ∃ f, W a = some f ∧ ∀ o, f o → o = .lst vs
def TuR (O : ObS) (W : Wd) (a : Addr) (vs : List V) : Prop := ∃ f, W a = some f ∧ ∀ o, f o → o = .tup vs
theorem ScR.sq {O : ObS} {W : Wd} {H : Hp} {a : Addr} {vs : List V} (r : ScR O W a vs) (h : Hold W H) : SqL O.K H a vs := by
  rcases r with ⟨f, e, k⟩ | r
  · obtain ⟨o, q, z⟩ := h a f e
    rcases k o z with y | ⟨ob, y⟩
    · exact .inl (.inl (by rw [q, y]))
    · exact .inl (.inr ⟨ob, by rw [q, y]⟩)
  · rcases r with (r | ⟨o, r⟩) | r
    · cases r
    · cases r
    · exact .inr r
theorem LsR.at {O : ObS} {W : Wd} {H : Hp} {a : Addr} {vs : List V} (r : LsR O W a vs) (h : Hold W H) : H a = some (.lst vs) := by
  obtain ⟨f, e, k⟩ := r
  obtain ⟨o, q, z⟩ := h a f e
  rw [q, k o z]
theorem LsR.sq {O : ObS} {W : Wd} {H : Hp} {a : Addr} {vs : List V} (r : LsR O W a vs) (h : Hold W H) : SqL O.K H a vs := SqL.of (r.at h)
theorem LsR.mono {O : ObS} {W W' : Wd} {a : Addr} {vs : List V} (w : Wle W W') (r : LsR O W a vs) : LsR O W' a vs := by
  obtain ⟨f, e, k⟩ := r
  exact ⟨f, w a f e, k⟩
theorem ScR.mono {O : ObS} {W W' : Wd} {a : Addr} {vs : List V} (w : Wle W W') (r : ScR O W a vs) : ScR O W' a vs := by
  rcases r with ⟨f, e, k⟩ | r
  · exact .inl ⟨f, w a f e, k⟩
  · exact .inr r
theorem TuR.sq {O : ObS} {W : Wd} {H : Hp} {a : Addr} {vs : List V} (r : TuR O W a vs) (h : Hold W H) : H a = some (.tup vs) := by
  obtain ⟨f, e, k⟩ := r
  obtain ⟨o, q, z⟩ := h a f e
  rw [q, k o z]
mutual
def Rep (O : ObS) (W : Wd) : PV → V → Prop
  | .non, v => v = .non
  | .bl b, v => v = .bl b
  | .int i, v => v = .int i
  | .str s, v => v = .str (tx s) ∧ okS s
  | .lst ps, v => ∃ a vs, v = .ref a ∧ LsR O W a vs ∧ RepL O W ps vs
  | .tup ps, v => ∃ a vs, v = .ref a ∧ TuR O W a vs ∧ RepL O W ps vs
  | .dct kvs, v => ∃ a, v = .ref a ∧ kvs = [] ∧ ∃ f, W a = some f ∧ ∀ o, f o → o = .dK []
  | .ob k d, v => ∃ a, v = .ref a ∧ O.rep k d W a
  | .scr ps, v => ∃ a vs, v = .ref a ∧ ScR O W a vs ∧ RepL O W ps vs
def RepL (O : ObS) (W : Wd) : List PV → List V → Prop
  | [], vs => vs = []
  | p :: ps, vs => ∃ v r, vs = v :: r ∧ Rep O W p v ∧ RepL O W ps r
end
mutual
theorem Rep.mono {O : ObS} {W W' : Wd} (w : Wle W W') : ∀ (p : PV) {v : V}, Rep O W p v → Rep O W' p v
  | .non, _, h => by simpa only [Rep] using h
  | .bl _, _, h => by simpa only [Rep] using h
  | .int _, _, h => by simpa only [Rep] using h
  | .str _, _, h => by simpa only [Rep] using h
  | .lst ps, _, h => by
    simp only [Rep] at h ⊢
    obtain ⟨a, vs, e, l, r⟩ := h
    exact ⟨a, vs, e, l.mono w, RepL.mono w ps r⟩
  | .tup ps, _, h => by
    simp only [Rep] at h ⊢
    obtain ⟨a, vs, e, ⟨f, l, k⟩, r⟩ := h
    exact ⟨a, vs, e, ⟨f, w a f l, k⟩, RepL.mono w ps r⟩
  | .dct _, _, h => by
    simp only [Rep] at h ⊢
    obtain ⟨a, e, n, f, l, k⟩ := h
    exact ⟨a, e, n, f, w a f l, k⟩
  | .ob k d, _, h => by
    simp only [Rep] at h ⊢
    obtain ⟨a, e, l⟩ := h
    exact ⟨a, e, O.mono k d W W' a w l⟩
  | .scr ps, _, h => by
    simp only [Rep] at h ⊢
    obtain ⟨a, vs, e, l, r⟩ := h
    exact ⟨a, vs, e, l.mono w, RepL.mono w ps r⟩
theorem RepL.mono {O : ObS} {W W' : Wd} (w : Wle W W') : ∀ (ps : List PV) {vs : List V}, RepL O W ps vs → RepL O W' ps vs
  | [], _, h => by simpa only [RepL] using h
  | p :: ps, _, h => by
    simp only [RepL] at h ⊢
    obtain ⟨v, r, e, h1, h2⟩ := h
    exact ⟨v, r, e, Rep.mono w p h1, RepL.mono w ps h2⟩
end
section
variable {O : ObS} {W W' : Wd} {H : Hp} {p : PV} {ps qs : List PV} {v : V} {vs ws : List V}
theorem RepL.cons (h : Rep O W p v) (t : RepL O W ps vs) : RepL O W (p :: ps) (v :: vs) := by
  simp only [RepL]
  exact ⟨v, vs, rfl, h, t⟩
theorem RepL.nil : RepL O W [] [] := by simp only [RepL]
theorem RepL.cons_iff : RepL O W (p :: ps) (v :: vs) ↔ Rep O W p v ∧ RepL O W ps vs := by
  constructor
  · intro h
    simp only [RepL] at h
    obtain ⟨_, _, e, a, b⟩ := h
    cases e
    exact ⟨a, b⟩
  · exact fun ⟨a, b⟩ => RepL.cons a b
theorem RepL.of_nil (h : RepL O W [] vs) : vs = [] := by simpa only [RepL] using h
theorem RepL.len : ∀ {ps : List PV} {vs : List V}, RepL O W ps vs → ps.length = vs.length
  | [], _, h => by rw [h.of_nil]; rfl
  | p :: ps, [], h => by simp only [RepL] at h; obtain ⟨_, _, e, _⟩ := h; cases e
  | p :: ps, v :: vs, h => by
    have := (RepL.cons_iff.mp h).2.len
    simp [this]
theorem RepL.get : ∀ {ps : List PV} {vs : List V} {i : Nat} {p : PV}, RepL O W ps vs → ps[i]? = some p → ∃ v, vs[i]? = some v ∧ Rep O W p v
  | [], _, _, _, _, e => by simp at e
  | q :: ps, [], _, _, h, _ => by simp only [RepL] at h; obtain ⟨_, _, e, _⟩ := h; cases e
  | q :: ps, v :: vs, 0, p, h, e => by
    simp at e; subst e
    exact ⟨v, rfl, (RepL.cons_iff.mp h).1⟩
  | q :: ps, v :: vs, i + 1, p, h, e => by
    obtain ⟨w, a, b⟩ := (RepL.cons_iff.mp h).2.get (i := i) (p := p) (by simpa using e)
    exact ⟨w, by simpa using a, b⟩
theorem RepL.app : ∀ {ps : List PV} {vs : List V}, RepL O W ps vs → RepL O W qs ws → RepL O W (ps ++ qs) (vs ++ ws)
  | [], vs, h, t => by rw [h.of_nil]; exact t
  | p :: ps, [], h, _ => by simp only [RepL] at h; obtain ⟨_, _, e, _⟩ := h; cases e
  | p :: ps, v :: vs, h, t => RepL.cons (RepL.cons_iff.mp h).1 ((RepL.cons_iff.mp h).2.app t)
theorem RepL.take : ∀ {ps : List PV} {vs : List V} (n : Nat), RepL O W ps vs → RepL O W (ps.take n) (vs.take n)
  | _, _, 0, _ => by simp only [List.take_zero]; exact RepL.nil
  | [], vs, n + 1, h => by rw [h.of_nil]; simp only [List.take_nil]; exact RepL.nil
  | p :: ps, [], _, h => by simp only [RepL] at h; obtain ⟨_, _, e, _⟩ := h; cases e
  | p :: ps, v :: vs, n + 1, h => by
    simp only [List.take_succ_cons]
    exact RepL.cons (RepL.cons_iff.mp h).1 ((RepL.cons_iff.mp h).2.take n)
theorem RepL.drop : ∀ {ps : List PV} {vs : List V} (n : Nat), RepL O W ps vs → RepL O W (ps.drop n) (vs.drop n)
  | _, _, 0, h => by simpa only [List.drop_zero] using h
  | [], vs, n + 1, h => by rw [h.of_nil]; simp only [List.drop_nil]; exact RepL.nil
  | p :: ps, [], _, h => by simp only [RepL] at h; obtain ⟨_, _, e, _⟩ := h; cases e
  | p :: ps, v :: vs, n + 1, h => by
    simp only [List.drop_succ_cons]
    exact (RepL.cons_iff.mp h).2.drop n
theorem Rep.int_iff {i : Int} : Rep O W (.int i) v ↔ v = .int i := by simp only [Rep]
theorem Rep.bl_iff {b : Bool} : Rep O W (.bl b) v ↔ v = .bl b := by simp only [Rep]
theorem Rep.non_iff : Rep O W .non v ↔ v = .non := by simp only [Rep]
theorem Rep.str_iff {s : List Nat} : Rep O W (.str s) v ↔ v = .str (tx s) ∧ okS s := by simp only [Rep]
theorem Rep.lst_iff : Rep O W (.lst ps) v ↔ ∃ a vs, v = .ref a ∧ LsR O W a vs ∧ RepL O W ps vs := by simp only [Rep]
theorem Rep.scr_iff : Rep O W (.scr ps) v ↔ ∃ a vs, v = .ref a ∧ ScR O W a vs ∧ RepL O W ps vs := by simp only [Rep]
theorem Rep.tup_iff : Rep O W (.tup ps) v ↔ ∃ a vs, v = .ref a ∧ TuR O W a vs ∧ RepL O W ps vs := by simp only [Rep]
/-- a value, or a list of somebody's own -/
def RepB (O : ObS) (W : Wd) (H : Hp) (p : PV) (x : V) : Prop := Rep O W p x ∨ ∃ a vs ps, p = .lst ps ∧ x = .ref a ∧ H a = some (.lst vs) ∧ W a = none ∧ RepL O W ps vs
/-- .. that stands from the entry on -/
def RepQ (O : ObS) (W0 : Wd) (H0 : Hp) (W : Wd) (p : PV) (x : V) : Prop := Rep O W p x ∨ ∃ a vs ps, p = .lst ps ∧ x = .ref a ∧ H0 a = some (.lst vs) ∧ W0 a = none ∧ RepL O W ps vs
theorem Stp.own {W W' : Wd} {H H' : Hp} (s : Stp W H W' H') {a : Addr} {o : HO} (h : H a = some o) (n : W a = none) : H' a = some o ∧ W' a = none := by
  refine ⟨s.kp a o h (fun f e => by rw [n] at e; cases e), ?_⟩
  cases e : W' a with
  | none => rfl
  | some f => exact (s.nw a f e).elim (fun z => by rw [n] at z; cases z) fun z => by rw [h] at z; cases z
theorem RepB.step {H' : Hp} {x : V} (s : Stp W H W' H') (r : RepB O W H p x) : RepB O W' H' p x := by
  rcases r with r | ⟨a, vs, ps, e1, e2, e3, e4, e5⟩
  · exact .inl (r.mono s.le)
  · obtain ⟨q1, q2⟩ := s.own e3 e4
    exact .inr ⟨a, vs, ps, e1, e2, q1, q2, e5.mono s.le⟩
theorem RepB.lst {H : Hp} {x : V} (h : Hold W H) (r : RepB O W H (.lst ps) x) : ∃ a vs, x = .ref a ∧ H a = some (.lst vs) ∧ RepL O W ps vs := by
  rcases r with r | ⟨a, vs, ps', e1, e2, e3, e4, e5⟩
  · obtain ⟨a, vs, e, l, t⟩ := Rep.lst_iff.mp r
    exact ⟨a, vs, e, l.at h, t⟩
  · cases e1
    exact ⟨a, vs, e2, e3, e5⟩
theorem RepB.val {H : Hp} {x : V} (r : RepB O W H p x) (hn : ∀ ps, p ≠ .lst ps) : Rep O W p x := by
  rcases r with r | ⟨a, vs, ps', e1, _⟩
  · exact r
  · exact (hn ps' e1).elim
end
/-- an error in the heap -/
def ExR (O : ObS) (W : Wd) (cls : Value) (d : Option Addr) (e : PX) : Prop := ∃ C, O.cl e.cls = some C ∧ cls = .ref C ∧
  (e.fs = [] ∨ ∃ dd fs, d = some dd ∧ W dd = some (fun x => x = .xd fs) ∧ ∀ f p, e.fs.lookup f = some p → ∃ v, fs.lookup (PySem.Str.ofString f) = some v ∧ Rep O W p v)
theorem ExR.mono {O : ObS} {W W' : Wd} {cls : Value} {d : Option Addr} {e : PX} (w : Wle W W') (h : ExR O W cls d e) : ExR O W' cls d e := by
  obtain ⟨C, a, b, c⟩ := h
  refine ⟨C, a, b, ?_⟩
  rcases c with c | ⟨dd, fs, c1, c2, c3⟩
  · exact .inl c
  · refine .inr ⟨dd, fs, c1, w _ _ c2, fun f p z => ?_⟩
    obtain ⟨v, q1, q2⟩ := c3 f p z
    exact ⟨v, q1, q2.mono w⟩
/-- where a def's body stands: the world and heap at its entry, the wish about errors; xa, xc, xd: the error that is handled -/
structure Cy where
  O : ObS
  W0 : Wd
  H0 : Hp
  h0 : Hold W0 H0
  Wx : WX
  xa : Addr
  xc : Value
  xd : Option Addr
def SlR (Y : Cy) (W : Wd) (H : Hp) (x : Option V) : Sl → Option Addr → Prop
  | .u, b => b = none
  | .v p, b => b = none ∧ ∃ v, x = some v ∧ Rep Y.O W p v
  | .b p, b => b = none ∧ ∃ v, x = some v ∧ RepQ Y.O Y.W0 Y.H0 W p v
  | .o ps, b => ∃ a vs, b = some a ∧ x = some (.ref a) ∧ H a = some (.lst vs) ∧ W a = none ∧ Y.H0 a = none ∧ RepL Y.O W ps vs
  | .x e, b => b = none ∧ x = some (.ref Y.xa) ∧ ExR Y.O W Y.xc Y.xd e
structure EnvR (Y : Cy) (W : Wd) (H : Hp) (σ : St) (env : Ev) : Prop where
  st : Stp Y.W0 Y.H0 W H
  len : σ.length = env.length
  ex : ∃ bs : List (Option Addr), bs.length = env.length ∧ (∀ (i : Nat) s x b, env[i]? = some s → σ[i]? = some x → bs[i]? = some b → SlR Y W H x s b) ∧ ∀ (i j : Nat) a, bs[i]? = some (some a) → bs[j]? = some (some a) → i = j
section
variable {Y : Cy} {W W' : Wd} {H H' : Hp} {σ : St} {env : Ev}
theorem EnvR.ho (E : EnvR Y W H σ env) : Hold W H := E.st.ho
theorem SlR.step {x : Option V} {s : Sl} {b : Option Addr} (t : Stp W H W' H') (h : SlR Y W H x s b) : SlR Y W' H' x s b := by
  cases s with
  | u => exact h
  | v p =>
    obtain ⟨e, v, e1, r⟩ := h
    exact ⟨e, v, e1, r.mono t.le⟩
  | b p =>
    obtain ⟨e, v, e1, r⟩ := h
    refine ⟨e, v, e1, ?_⟩
    rcases r with r | ⟨a, vs, ps, q1, q2, q3, q4, q5⟩
    · exact .inl (r.mono t.le)
    · exact .inr ⟨a, vs, ps, q1, q2, q3, q4, q5.mono t.le⟩
  | o ps =>
    obtain ⟨a, vs, e1, e2, e3, e4, e5, e6⟩ := h
    obtain ⟨q1, q2⟩ := t.own e3 e4
    exact ⟨a, vs, e1, e2, q1, q2, e5, e6.mono t.le⟩
  | x e =>
    obtain ⟨e1, e2, e3⟩ := h
    exact ⟨e1, e2, e3.mono t.le⟩
theorem EnvR.step (E : EnvR Y W H σ env) (t : Stp W H W' H') : EnvR Y W' H' σ env := by
  obtain ⟨bs, l, h, d⟩ := E.ex
  exact ⟨E.st.trans Y.h0 t, E.len, bs, l, fun i s x b e1 e2 e3 => (h i s x b e1 e2 e3).step t, d⟩
theorem EnvR.slot (E : EnvR Y W H σ env) {i : Nat} {s : Sl} (e : env[i]? = some s) : ∃ x b, σ[i]? = some x ∧ SlR Y W H x s b := by
  obtain ⟨bs, l, h, d⟩ := E.ex
  have hi : i < env.length := (List.getElem?_eq_some_iff.mp e).1
  have h1 : i < σ.length := by rw [E.len]; exact hi
  have h2 : i < bs.length := by rw [l]; exact hi
  exact ⟨σ[i], bs[i], by simp [h1], h i s _ _ e (by simp [h1]) (by simp [h2])⟩
/-- a slot is stored; b its address, where it is a list of one's own -/
theorem EnvR.set (E : EnvR Y W H σ env) {i : Nat} {s : Sl} {x : Option V} {b : Option Addr} (h : SlR Y W H x s b) (hb : ∀ a, b = some a → ∀ j s' x', j ≠ i → env[j]? = some s' → σ[j]? = some x' → ∀ b', SlR Y W H x' s' b' → b' ≠ some a) : EnvR Y W H (σ.set i x) (env.set i s) := by
  obtain ⟨bs, l, hs, d⟩ := E.ex
  refine ⟨E.st, by simp [E.len], bs.set i b, by simp [l], fun j s' x' b' e1 e2 e3 => ?_, fun j k a e1 e2 => ?_⟩
  · by_cases hj : i = j
    · subst hj
      have hi : i < env.length := by
        have := (List.getElem?_eq_some_iff.mp e1).1
        simpa using this
      rw [List.getElem?_set_self hi] at e1
      rw [List.getElem?_set_self (by rw [E.len]; exact hi)] at e2
      rw [List.getElem?_set_self (by rw [l]; exact hi)] at e3
      cases e1; cases e2; cases e3
      exact h
    · rw [List.getElem?_set_ne hj] at e1 e2 e3
      exact hs j s' x' b' e1 e2 e3
  · have key : ∀ m a, (bs.set i b)[m]? = some (some a) → m ≠ i → bs[m]? = some (some a) := fun m a e hm => by rwa [List.getElem?_set_ne (Ne.symm hm)] at e
    have get : ∀ m a, bs[m]? = some (some a) → ∃ s' x', env[m]? = some s' ∧ σ[m]? = some x' ∧ SlR Y W H x' s' (some a) := fun m a e => by
      have hm : m < bs.length := (List.getElem?_eq_some_iff.mp e).1
      have h1 : m < env.length := by rw [← l]; exact hm
      have h2 : m < σ.length := by rw [E.len]; exact h1
      exact ⟨env[m], σ[m], List.getElem?_eq_getElem h1, List.getElem?_eq_getElem h2, hs m _ _ _ (List.getElem?_eq_getElem h1) (List.getElem?_eq_getElem h2) e⟩
    have at_i : ∀ a, (bs.set i b)[i]? = some (some a) → b = some a := fun a e => by
      have hi : i < bs.length := by
        have := (List.getElem?_eq_some_iff.mp e).1
        simpa using this
      rw [List.getElem?_set_self hi] at e
      exact Option.some.inj e
    by_cases hj : j = i
    · by_cases hk : k = i
      · rw [hj, hk]
      · rw [hj] at e1
        obtain ⟨s', x', q1, q2, q3⟩ := get k a (key k a e2 hk)
        exact (hb a (at_i a e1) k s' x' hk q1 q2 _ q3 rfl).elim
    · by_cases hk : k = i
      · rw [hk] at e2
        obtain ⟨s', x', q1, q2, q3⟩ := get j a (key j a e1 hj)
        exact (hb a (at_i a e2) j s' x' hj q1 q2 _ q3 rfl).elim
      · exact d j k a (key j a e1 hj) (key k a e2 hk)
theorem EnvR.setv (E : EnvR Y W H σ env) {i : Nat} {p : PV} {v : V} (h : Rep Y.O W p v) : EnvR Y W H (σ.set i (some v)) (env.set i (.v p)) :=
  E.set (b := none) ⟨rfl, v, rfl, h⟩ fun a e => by cases e
theorem EnvR.setu (E : EnvR Y W H σ env) {i : Nat} {x : Option V} : EnvR Y W H (σ.set i x) (env.set i .u) :=
  E.set (b := none) (show SlR Y W H x .u none from rfl) fun a e => by cases e
theorem SlR.own_at {x : Option V} {s : Sl} {a : Addr} (h : SlR Y W H x s (some a)) : ∃ ps vs, s = .o ps ∧ x = some (.ref a) ∧ H a = some (.lst vs) ∧ W a = none ∧ Y.H0 a = none ∧ RepL Y.O W ps vs := by
  cases s with
  | u => cases (show some a = none from h)
  | v p => cases h.1
  | b p => cases h.1
  | x e => cases h.1
  | o ps =>
    obtain ⟨a', vs, e1, r⟩ := h
    cases e1
    exact ⟨ps, vs, rfl, r⟩
theorem EnvR.seto (E : EnvR Y W H σ env) {i : Nat} {ps : List PV} {vs : List V} {a : Addr} (n : ∀ j s x, j ≠ i → env[j]? = some s → σ[j]? = some x → ¬ SlR Y W H x s (some a)) (ha : H a = some (.lst vs)) (hw : W a = none) (h0 : Y.H0 a = none) (r : RepL Y.O W ps vs) : EnvR Y W H (σ.set i (some (.ref a))) (env.set i (.o ps)) :=
  E.set (b := some a) ⟨a, vs, rfl, rfl, ha, hw, h0, r⟩ fun a' e j s' x' hj q1 q2 b' q3 z => by
    cases e
    rw [z] at q3
    exact n j s' x' hj q1 q2 q3
/-- the list in slot i becomes another one -/
theorem EnvR.mut (E : EnvR Y W H σ env) {i : Nat} {ps : List PV} (e : env[i]? = some (.o ps)) : ∃ a vs, σ[i]? = some (some (.ref a)) ∧ H a = some (.lst vs) ∧ W a = none ∧ RepL Y.O W ps vs ∧
    ∀ qs ws, RepL Y.O W qs ws → EnvR Y W (upd H a (.lst ws)) σ (env.set i (.o qs)) := by
  obtain ⟨bs, l, hs, d⟩ := E.ex
  have hi : i < env.length := (List.getElem?_eq_some_iff.mp e).1
  have h1 : i < σ.length := by rw [E.len]; exact hi
  have h2 : i < bs.length := by rw [l]; exact hi
  have hb : bs[i]? = some bs[i] := by simp [h2]
  obtain ⟨a, vs, b1, b2, b3, b4, b5, b6⟩ := hs i (.o ps) σ[i] bs[i] e (by simp [h1]) hb
  refine ⟨a, vs, by simp [h1, b2], b3, b4, b6, fun qs ws r => ?_⟩
  have st : Stp Y.W0 Y.H0 W (upd H a (.lst ws)) := {
    le := E.st.le
    ho := fun b f q => by
      rw [upd_ne (fun z => by rw [z, b4] at q; cases q)]
      exact E.st.ho b f q
    kp := fun b o q z => by
      rw [upd_ne (ne_of_none q b5)]
      exact E.st.kp b o q z
    nw := E.st.nw }
  refine ⟨st, by simp [E.len], bs, by simp [l], fun j s x b e1 e2 e3 => ?_, d⟩
  by_cases hj : i = j
  · subst hj
    rw [List.getElem?_set_self hi] at e1
    cases e1
    rw [hb] at e3
    have z : σ[i]? = some σ[i] := by simp [h1]
    rw [z] at e2
    cases e2; cases e3
    exact ⟨a, ws, b1, b2, upd_same, b4, b5, r⟩
  · rw [List.getElem?_set_ne hj] at e1
    have q := hs j s x b e1 e2 e3
    cases s with
    | u => exact q
    | v p => exact q
    | b p => exact q
    | x e => exact q
    | o ps' =>
      obtain ⟨a', vs', c1, c2, c3, c4, c5, c6⟩ := q
      have ne : a' ≠ a := fun z => hj (d i j a (by rw [hb, b1]) (by rw [e3, c1, z]))
      exact ⟨a', vs', c1, c2, by rw [upd_ne ne]; exact c3, c4, c5, c6⟩
theorem EnvR.frz (E : EnvR Y W H σ env) (i : Nat) : ∃ W', Wle W W' ∧ EnvR Y W' H σ (JP.frz i env) := by
  unfold JP.frz
  cases e : env[i]? with
  | none => exact ⟨W, Wle.refl W, E⟩
  | some s =>
    cases s with
    | u => exact ⟨W, Wle.refl W, E⟩
    | v p => exact ⟨W, Wle.refl W, E⟩
    | b p => exact ⟨W, Wle.refl W, E⟩
    | x p => exact ⟨W, Wle.refl W, E⟩
    | o ps =>
      obtain ⟨bs, l, hs, d⟩ := E.ex
      have hi : i < env.length := (List.getElem?_eq_some_iff.mp e).1
      have h1 : i < σ.length := by rw [E.len]; exact hi
      have h2 : i < bs.length := by rw [l]; exact hi
      have hb : bs[i]? = some bs[i] := by simp [h2]
      obtain ⟨a, vs, b1, b2, b3, b4, b5, b6⟩ := hs i (.o ps) σ[i] bs[i] e (by simp [h1]) hb
      have le : Wle W (putW W a (.lst vs)) := Wle.put b4
      refine ⟨putW W a (.lst vs), le, ⟨⟨E.st.le.trans le, fun b f q => ?_, E.st.kp, fun b f q => ?_⟩, by simp [E.len], bs.set i none, by simp [l], fun j s x b e1 e2 e3 => ?_, fun j k a' q1 q2 => ?_⟩⟩
      · by_cases hb : b = a
        · subst hb
          rw [putW_same] at q; cases q
          exact ⟨_, b3, rfl⟩
        · rw [putW_ne hb] at q
          exact E.st.ho b f q
      · by_cases hb : b = a
        · subst hb
          exact .inr b5
        · rw [putW_ne hb] at q
          exact E.st.nw b f q
      · by_cases hj : i = j
        · subst hj
          rw [List.getElem?_set_self hi] at e1
          rw [List.getElem?_set_self h2] at e3
          cases e1; cases e3
          have z : σ[i]? = some σ[i] := by simp [h1]
          rw [z] at e2
          cases e2
          exact ⟨rfl, .ref a, b2, Rep.lst_iff.mpr ⟨a, vs, rfl, ⟨_, putW_same, fun o z => z⟩, b6.mono le⟩⟩
        · rw [List.getElem?_set_ne hj] at e1 e3
          have q := hs j s x b e1 e2 e3
          cases s with
          | u => exact q
          | v p =>
            obtain ⟨q1, v, q2, q3⟩ := q
            exact ⟨q1, v, q2, q3.mono le⟩
          | b p =>
            obtain ⟨q1, v, q2, q3⟩ := q
            refine ⟨q1, v, q2, ?_⟩
            rcases q3 with q3 | ⟨a', vs', ps', c1, c2, c3, c4, c5⟩
            · exact .inl (q3.mono le)
            · exact .inr ⟨a', vs', ps', c1, c2, c3, c4, c5.mono le⟩
          | x e =>
            obtain ⟨q1, q2, q3⟩ := q
            exact ⟨q1, q2, q3.mono le⟩
          | o ps' =>
            obtain ⟨a', vs', c1, c2, c3, c4, c5, c6⟩ := q
            have ne : a' ≠ a := fun z => hj (d i j a (by rw [hb, b1]) (by rw [e3, c1, z]))
            exact ⟨a', vs', c1, c2, c3, by rw [putW_ne ne]; exact c4, c5, c6.mono le⟩
      · have key : ∀ m a', (bs.set i none)[m]? = some (some a') → bs[m]? = some (some a') := fun m a' e => by
          by_cases hm : i = m
          · subst hm
            rw [List.getElem?_set_self h2] at e
            cases e
          · rwa [List.getElem?_set_ne hm] at e
        exact d j k a' (key j a' q1) (key k a' q2)
end

/-! ### readings by plain data -/
def RP {α : Type} (Y : Cy) (σ : St) (W : Wd) (H : Hp) (r : R α) (k : Wd → Hp → α → Prop) : Prop :=
  match r with
  | .ok a => ∀ W' H', Stp W H W' H' → k W' H' a
  | .ex e => ∀ W' H' cls d, Stp W H W' H' → ExR Y.O W' cls d e → Y.Wx cls d σ H'
  | .bad => False
def tP (Y : Cy) (f : EX) : TE := fun σ H Q => ∃ W env, EnvR Y W H σ env ∧ RP Y σ W H (f env) fun W' H' p => ∀ x, Rep Y.O W' p x → Q x H'
def tB (Y : Cy) (f : EX) : TE := fun σ H Q => ∃ W env, EnvR Y W H σ env ∧ RP Y σ W H (f env) fun W' H' p => ∀ x, RepB Y.O W' H' p x → Q x H'
def tQ (Y : Cy) (f : EX) : TE := fun σ H Q => ∃ W env, EnvR Y W H σ env ∧ RP Y σ W H (f env) fun W' H' p => ∀ x, RepQ Y.O Y.W0 Y.H0 W' p x → Q x H'
/-- a new list -/
def tF (Y : Cy) (f : AX) : TE := fun σ H Q => ∃ W env, EnvR Y W H σ env ∧ RP Y σ W H (f env) fun W' H' ps => ∀ a vs, H a = none → W' a = none → H' a = some (.lst vs) → RepL Y.O W' ps vs → Q (.ref a) H'
def ArgR (O : ObS) (W : Wd) (H : Hp) : List Bool → List PV → List V → Prop
  | [], ps, vs => ps = [] ∧ vs = []
  | m :: ms, ps, vs => ∃ p pr v vr, ps = p :: pr ∧ vs = v :: vr ∧ (if m = true then RepB O W H p v else Rep O W p v) ∧ ArgR O W H ms pr vr
def tAr (Y : Cy) (md : List Bool) (f : AX) : TA := fun σ H Q => ∃ W env, EnvR Y W H σ env ∧ RP Y σ W H (f env) fun W' H' ps => ∀ xs, ArgR Y.O W' H' md ps xs → Q xs H'
def tT (Y : Cy) (f : EX) : TT := fun σ H Q => ∃ W env, EnvR Y W H σ env ∧ RP Y σ W H (f env) fun W' H' p => ∃ b, p = .bl b ∧ Q b H'
def tS (Y : Cy) (g : SX) : TS := fun D σ H => ∃ W env, EnvR Y W H σ env ∧
  match g env with
  | .nx e => ∀ W' H' σ', Wle W W' → EnvR Y W' H' σ' e → D.nx σ' H'
  | .bk e => ∀ W' H' σ', Wle W W' → EnvR Y W' H' σ' e → D.bk σ' H'
  | .ct e => ∀ W' H' σ', Wle W W' → EnvR Y W' H' σ' e → D.ct σ' H'
  | .rt p => ∀ W' H' x, Stp Y.W0 Y.H0 W' H' → Rep Y.O W' p x → D.rt x H'
  | .rf ps => ∀ W' H' a vs, Stp Y.W0 Y.H0 W' H' → Y.H0 a = none → W' a = none → H' a = some (.lst vs) → RepL Y.O W' ps vs → D.rt (.ref a) H'
  | .ex x e => ∀ W' H' σ' cls d, Wle W W' → EnvR Y W' H' σ' e → ExR Y.O W' cls d x → Y.Wx cls d σ' H'
  | .bad => False
end JP

set_option Elab.async false
set_option linter.all false
set_option maxRecDepth 100000
/-! JP3: rules for expressions. -/
namespace JP
open PySem L2
section
variable {X : Cx}
theorem pe_imp {e : Expr} {t t' : TE} (h : PE X e t) (k : ∀ σ H Q, t' σ H Q → t σ H Q) : PE X e t' := ⟨fun pins s σ H Q I w => h.run pins s σ H Q I (k σ H Q w)⟩
theorem pt_imp {e : Expr} {t t' : TT} (h : PT X e t) (k : ∀ σ H Q, t' σ H Q → t σ H Q) : PT X e t' := ⟨fun pins s σ H Q I w => h.run pins s σ H Q I (k σ H Q w)⟩
theorem pw_imp {e : Expr} {t t' : TT} (h : PW X e t) (k : ∀ σ H Q, t' σ H Q → t σ H Q) : PW X e t' := ⟨fun wh pins s σ H Q I w => h.run wh pins s σ H Q I (k σ H Q w)⟩
theorem pa_imp {es : List Expr} {t t' : TA} (h : PA X es t) (k : ∀ σ H Q, t' σ H Q → t σ H Q) : PA X es t' := ⟨fun pos pins s σ H Q I w => h.run pos pins s σ H Q I (k σ H Q w)⟩
theorem po_imp {e : Option Expr} {t t' : TO} (h : PO X e t) (k : ∀ σ H Q, t' σ H Q → t σ H Q) : PO X e t' := ⟨fun pins s σ H Q I w => h.run pins s σ H Q I (k σ H Q w)⟩
theorem ps_imp {st : Stmt} {t t' : TS} (h : PS X st t) (k : ∀ D σ H, t' D σ H → t D σ H) : PS X st t' := ⟨fun pins s σ H D I w => h.run pins s σ H D I (k D σ H w)⟩
theorem pss_imp {st : List Stmt} {t t' : TS} (h : PSs X st t) (k : ∀ D σ H, t' D σ H → t D σ H) : PSs X st t' := ⟨fun pins s σ H D I w => h.run pins s σ H D I (k D σ H w)⟩
end
section
variable {Y : Cy} {σ : St} {W W1 : Wd} {H H1 : Hp} {α β : Type}
theorem RP.mono {r : R α} {k k' : Wd → Hp → α → Prop} (h : RP Y σ W H r k) (m : ∀ W' H' a, Stp W H W' H' → k W' H' a → k' W' H' a) : RP Y σ W H r k' := by
  cases r with
  | ok a => exact fun W' H' t => m W' H' a t (h W' H' t)
  | ex e => exact h
  | bad => exact h
theorem RP.start {r : R α} {k : Wd → Hp → α → Prop} (h0 : Hold W H) (t : Stp W H W1 H1) (h : RP Y σ W H r k) : RP Y σ W1 H1 r k := by
  cases r with
  | ok a => exact fun W' H' t' => h W' H' (t.trans h0 t')
  | ex e => exact fun W' H' cls d t' x => h W' H' cls d (t.trans h0 t') x
  | bad => exact h
theorem RP.bind {r : R α} {g : α → R β} {k : Wd → Hp → β → Prop} (h0 : Hold W H) (h : RP Y σ W H (r.bind g) k) : RP Y σ W H r fun W1 H1 a => RP Y σ W1 H1 (g a) k := by
  cases r with
  | ok a => exact fun W' H' t => RP.start h0 t h
  | ex e => exact h
  | bad => exact h
theorem RP.ofO {o : Option α} {k : Wd → Hp → α → Prop} (h : RP Y σ W H (JP.ofO o) k) : ∃ a, o = some a ∧ ∀ W' H', Stp W H W' H' → k W' H' a := by
  cases o with
  | none => exact False.elim h
  | some a => exact ⟨a, rfl, h⟩
theorem RP.now {a : α} {k : Wd → Hp → α → Prop} (h0 : Hold W H) (h : RP Y σ W H (.ok a) k) : k W H a := h W H (Stp.refl h0)
end
section
variable {X : Cx} {Y : Cy} {e a b c : Expr} {f g k : EX} {pos : Pos}
/-- a value may stand for a borrowed one -/
theorem pe_pb (h : PE X e (tP Y f)) : PE X e (tB Y f) := pe_imp h fun σ H Q ⟨W, env, E, r⟩ => ⟨W, env, E, r.mono fun _ _ _ _ q x hx => q x (.inl hx)⟩
theorem pe_pq (h : PE X e (tP Y f)) : PE X e (tQ Y f) := pe_imp h fun σ H Q ⟨W, env, E, r⟩ => ⟨W, env, E, r.mono fun _ _ _ _ q x hx => q x (.inl hx)⟩
theorem RepQ.toB {W0 : Wd} {H0 : Hp} {W : Wd} {H : Hp} {O : ObS} {p : PV} {x : V} (s : Stp W0 H0 W H) (r : RepQ O W0 H0 W p x) : RepB O W H p x := by
  rcases r with r | ⟨a, vs, ps, e1, e2, e3, e4, e5⟩
  · exact .inl r
  · obtain ⟨q1, q2⟩ := s.own e3 e4
    exact .inr ⟨a, vs, ps, e1, e2, q1, q2, e5⟩
theorem pe_qb (h : PE X e (tQ Y f)) : PE X e (tB Y f) := pe_imp h fun σ H Q ⟨W, env, E, r⟩ => ⟨W, env, E, r.mono fun W' H' _ t q x hx => q x (RepQ.toB (E.step t).st hx)⟩
/-- what is new is kept for good -/
theorem Stp.fix {W W' : Wd} {H H' : Hp} {p : Addr} {o : HO} (t : Stp W H W' H') (n0 : H p = none) (nw : W' p = none) (ha : H' p = some o) : Stp W H (putW W' p o) H' where
  le := t.le.trans (Wle.put nw)
  ho := fun q f e => by
    by_cases hb : q = p
    · subst hb
      rw [putW_same] at e; cases e
      exact ⟨_, ha, rfl⟩
    · rw [putW_ne hb] at e
      exact t.ho q f e
  kp := t.kp
  nw := fun q f e => by
    by_cases hb : q = p
    · subst hb
      exact .inr n0
    · rw [putW_ne hb] at e
      exact t.nw q f e
theorem Rep.fixL {O : ObS} {W : Wd} {p : Addr} {ps : List PV} {vs : List V} (nw : W p = none) (r : RepL O W ps vs) : Rep O (putW W p (.lst vs)) (.lst ps) (.ref p) :=
  Rep.lst_iff.mpr ⟨p, vs, rfl, ⟨_, putW_same, fun _ z => z⟩, r.mono (Wle.put nw)⟩
theorem Rep.fixT {O : ObS} {W : Wd} {p : Addr} {ps : List PV} {vs : List V} (nw : W p = none) (r : RepL O W ps vs) : Rep O (putW W p (.tup vs)) (.tup ps) (.ref p) :=
  Rep.tup_iff.mpr ⟨p, vs, rfl, ⟨_, putW_same, fun _ z => z⟩, r.mono (Wle.put nw)⟩
/-- a new list, kept for good -/
theorem pe_fp {f : AX} (h : PE X e (tF Y f)) : PE X e (tP Y (eFrz f)) := by
  refine pe_imp h fun σ H Q ⟨W, env, E, r⟩ => ⟨W, env, E, ?_⟩
  unfold eFrz at r
  cases hf : f env with
  | ok ps =>
    rw [hf] at r
    exact fun W' H' t p vs n0 nw ha rl => r (putW W' p (.lst vs)) H' (t.fix n0 nw ha) (.ref p) (Rep.fixL nw rl)
  | ex x => rw [hf] at r; exact r
  | bad => rw [hf] at r; exact r

/-! ### names and constants -/
theorem ge_var (i : Nat) {x : Str} (hN : X.N[i]? = some x := by rfl) (hv : Vis X.env.scope x := by first | exact Or.inl rfl | exact Or.inr (Or.inl rfl) | exact Or.inr (Or.inr rfl)) (hd : (x == ("__debug__" : Str)) = false := by decide) (hcd : (x == ("__classdict__" : Str)) = false := by decide) : PE X (.Name x pos) (tP Y (eVar i)) := by
  refine pe_imp (pe_var hN hv hd hcd) fun σ H Q ⟨W, env, E, r⟩ => ?_
  unfold eVar at r
  cases e : env[i]? with
  | none => rw [e] at r; exact False.elim r
  | some s =>
    rw [e] at r
    cases s with
    | v p =>
      obtain ⟨x, b, e1, _, v, e2, rv⟩ := E.slot e
      exact ⟨v, by rw [e1, e2], r.now E.ho v rv⟩
    | _ => exact False.elim r
theorem ge_bor (i : Nat) {x : Str} (hN : X.N[i]? = some x := by rfl) (hv : Vis X.env.scope x := by first | exact Or.inl rfl | exact Or.inr (Or.inl rfl) | exact Or.inr (Or.inr rfl)) (hd : (x == ("__debug__" : Str)) = false := by decide) (hcd : (x == ("__classdict__" : Str)) = false := by decide) : PE X (.Name x pos) (tB Y (eBor i)) := by
  refine pe_imp (pe_var hN hv hd hcd) fun σ H Q ⟨W, env, E, r⟩ => ?_
  unfold eBor at r
  cases e : env[i]? with
  | none => rw [e] at r; exact False.elim r
  | some s =>
    rw [e] at r
    cases s with
    | v p =>
      obtain ⟨x, b, e1, _, v, e2, rv⟩ := E.slot e
      exact ⟨v, by rw [e1, e2], r.now E.ho v (.inl rv)⟩
    | b p =>
      obtain ⟨x, b, e1, _, v, e2, rv⟩ := E.slot e
      exact ⟨v, by rw [e1, e2], r.now E.ho v (rv.toB E.st)⟩
    | o ps =>
      obtain ⟨x, b, e1, a, vs, _, e2, e3, e4, _, e6⟩ := E.slot e
      exact ⟨.ref a, by rw [e1, e2], r.now E.ho (.ref a) (.inr ⟨a, vs, ps, rfl, rfl, e3, e4, e6⟩)⟩
    | _ => exact False.elim r
theorem ge_q (i : Nat) {x : Str} (hN : X.N[i]? = some x := by rfl) (hv : Vis X.env.scope x := by first | exact Or.inl rfl | exact Or.inr (Or.inl rfl) | exact Or.inr (Or.inr rfl)) (hd : (x == ("__debug__" : Str)) = false := by decide) (hcd : (x == ("__classdict__" : Str)) = false := by decide) : PE X (.Name x pos) (tQ Y (eQ i)) := by
  refine pe_imp (pe_var hN hv hd hcd) fun σ H Q ⟨W, env, E, r⟩ => ?_
  unfold eQ at r
  cases e : env[i]? with
  | none => rw [e] at r; exact False.elim r
  | some s =>
    rw [e] at r
    cases s with
    | v p =>
      obtain ⟨x, b, e1, _, v, e2, rv⟩ := E.slot e
      exact ⟨v, by rw [e1, e2], r.now E.ho v (.inl rv)⟩
    | b p =>
      obtain ⟨x, b, e1, _, v, e2, rv⟩ := E.slot e
      exact ⟨v, by rw [e1, e2], r.now E.ho v rv⟩
    | _ => exact False.elim r
theorem ge_c {v : V} {p : PV} (h : PE X e (tC v)) (hr : ∀ O W, Rep O W p v) : PE X e (tP Y (eC p)) :=
  pe_imp h fun σ H Q ⟨W, env, E, r⟩ => r.now E.ho v (hr _ _)
theorem ge_int {i j} : PE X (.Constant (.int i) j pos) (tP Y (eC (.int i))) := ge_c pe_int fun _ _ => Rep.int_iff.mpr rfl
theorem ge_bl {i j} : PE X (.Constant (.bool i) j pos) (tP Y (eC (.bl i))) := ge_c pe_bl fun _ _ => Rep.bl_iff.mpr rfl
theorem ge_non {j} : PE X (.Constant .none j pos) (tP Y (eC .non)) := ge_c pe_non fun _ _ => Rep.non_iff.mpr rfl
theorem ge_str (s : List Nat) {x : Str} {j} (hx : x = tx s := by decide +kernel) (ho : okS s := by decide) : PE X (.Constant (.str x) j pos) (tP Y (eC (.str s))) := by
  subst hx
  exact ge_c pe_str fun _ _ => Rep.str_iff.mpr ⟨rfl, ho⟩
/-- a constant of the module -/
theorem ge_glob {p : PV} {x : Str} {v : V} {u : Value} (hg : Gl X x) (hm : X.mg x = some u) (r : RelV v u) (hr : ∀ O W, Rep O W p v) (hd : (x == ("__debug__" : Str)) = false := by decide) : PE X (.Name x pos) (tP Y (eC p)) := ge_c (pe_glob hg hm r hd) hr

/-! ### operators -/
/-- r does on the heap what h does on data -/
def R2S (O : ObS) (r : R2) (h : PV → PV → Option PV) : Prop := ∀ (W : Wd) (H : Hp) (x y : V) (p q z : PV) (Q : VK), Hold W H → RepB O W H p x → RepB O W H q y → h p q = some z → (∀ W' H' v, Stp W H W' H' → Rep O W' z v → Q v H') → r x y H Q
theorem t_op {r : R2} {h : PV → PV → Option PV} (hr : R2S Y.O r h) : ∀ σ H Q, tP Y (eOp h f g) σ H Q → tOp r (tB Y f) (tB Y g) σ H Q := by
  intro σ H Q ⟨W, env, E, k⟩
  refine ⟨W, env, E, (RP.bind E.ho k).mono fun W1 H1 p s1 k1 x rx => ?_⟩
  have E1 := E.step s1
  refine ⟨W1, env, E1, (RP.bind E1.ho k1).mono fun W2 H2 q s2 k2 y ry => ?_⟩
  obtain ⟨z, hz, kz⟩ := RP.ofO k2
  exact hr W2 H2 x y p q z Q (E1.step s2).ho (rx.step s2) ry hz fun W' H' v t rv => kz W' H' t v rv
theorem ge_op {op : Operator} {r : R2} {h : PV → PV → Option PV} (ho : OpR X (binaryOp op) r) (hr : R2S Y.O r h) (ha : PE X a (tB Y f)) (hb : PE X b (tB Y g)) : PE X (.BinOp a op b pos) (tP Y (eOp h f g)) :=
  pe_imp (pe_op ho ha hb) (t_op hr)
theorem ge_cmp {op : CmpOp} {r : R2} {h : PV → PV → Option PV} (ho : OpR X (compareOp op) r) (hr : R2S Y.O r h) (ha : PE X a (tB Y f)) (hb : PE X b (tB Y g)) (hm : behindInMarks op b = false) : PE X (.Compare a [op] [b] pos) (tP Y (eOp h f g)) :=
  pe_imp (pe_cmpR ho ha hb hm) (t_op hr)
/-- a truth as a test -/
theorem t_test : ∀ {t : TE}, (∀ σ H Q, tP Y f σ H Q → t σ H Q) → ∀ σ H Q, tT Y f σ H Q → tTest t σ H Q := by
  intro t ht σ H Q ⟨W, env, E, k⟩
  refine ht σ H _ ⟨W, env, E, k.mono fun W' H' p t' ⟨b, e, q⟩ x rx => ?_⟩
  subst e
  exact ⟨b, Rep.bl_iff.mp rx, q⟩
theorem gt_cmp {op : CmpOp} {r : R2} {h : PV → PV → Option PV} (ho : OpR X (compareOp op) r) (hr : R2S Y.O r h) (ha : PE X a (tB Y f)) (hb : PE X b (tB Y g)) (hm : behindInMarks op b = false) : PT X (.Compare a [op] [b] pos) (tT Y (eOp h f g)) :=
  pt_imp (pt_cmpR ho ha hb hm) (t_test (t_op hr))
theorem gt_val (h : PE X e (tP Y f)) (he : ∀ whole, isTrue e X.env whole = (do let v ← whole; standAt e.pos; holding [v] (truthy v)) := by intro _; rfl) : PT X e (tT Y f) := by
  refine pt_imp (pt_val h he) fun σ H Q ⟨W, env, E, k⟩ => ⟨W, env, E, k.mono fun W' H' p t' ⟨b, e, q⟩ x rx => ?_⟩
  subst e
  exact ⟨b, Rep.bl_iff.mp rx, q⟩
def R1S (O : ObS) (r : V → Hp → VK → Prop) (h : PV → Option PV) : Prop := ∀ (W : Wd) (H : Hp) (x : V) (p z : PV) (Q : VK), Hold W H → RepB O W H p x → h p = some z → (∀ W' H' v, Stp W H W' H' → Rep O W' z v → Q v H') → r x H Q
theorem ge_un {op : UnaryOp} {r : V → Hp → VK → Prop} {h : PV → Option PV} (ho : UnR X (unaryOp op) r) (hr : R1S Y.O r h) (ha : PE X a (tB Y f)) : PE X (.UnaryOp op a pos) (tP Y (eUn h f)) := by
  refine pe_imp (pe_un ho ha) fun σ H Q ⟨W, env, E, k⟩ => ⟨W, env, E, (RP.bind E.ho k).mono fun W1 H1 p s1 k1 x rx => ?_⟩
  obtain ⟨z, hz, kz⟩ := RP.ofO k1
  exact hr W1 H1 x p z Q (E.step s1).ho rx hz fun W' H' v t rv => kz W' H' t v rv
end
end JP

set_option Elab.async false
set_option linter.all false
set_option maxRecDepth 100000
/-! JP4: what the operators do on plain data. -/
namespace JP
open PySem L2
section
variable {O : ObS} {W : Wd} {H : Hp} {p : PV} {ps : List PV} {x : V}
theorem RepB.int {i : Int} (r : RepB O W H (.int i) x) : x = .int i := Rep.int_iff.mp (r.val fun _ z => by cases z)
theorem RepB.bl {i : Bool} (r : RepB O W H (.bl i) x) : x = .bl i := Rep.bl_iff.mp (r.val fun _ z => by cases z)
theorem RepB.non (r : RepB O W H .non x) : x = .non := Rep.non_iff.mp (r.val fun _ z => by cases z)
theorem RepB.str {s : List Nat} (r : RepB O W H (.str s) x) : x = .str (tx s) ∧ okS s := Rep.str_iff.mp (r.val fun _ z => by cases z)
theorem RepB.tup (r : RepB O W H (.tup ps) x) : ∃ a vs, x = .ref a ∧ TuR O W a vs ∧ RepL O W ps vs := Rep.tup_iff.mp (r.val fun _ z => by cases z)
theorem RepB.scr (r : RepB O W H (.scr ps) x) : ∃ a vs, x = .ref a ∧ ScR O W a vs ∧ RepL O W ps vs := Rep.scr_iff.mp (r.val fun _ z => by cases z)
theorem okS.app {s t : List Nat} (h : okS s) (g : okS t) : okS (s ++ t) := fun c hc => (List.mem_append.mp hc).elim (h c) (g c)
theorem okS.sub {s t : List Nat} (h : okS s) (g : ∀ c ∈ t, c ∈ s) : okS t := fun c hc => h c (g c hc)
theorem size_of {n : Nat} (h : n ≤ 1000000) : n ≤ sizeLine := Nat.le_trans h (by decide)
theorem size_lt {n : Nat} (h : n < 1000000) : n < sizeLine := Nat.lt_of_lt_of_le h (by decide)
end
section
variable {O : ObS}
theorem r2s_add {X : Cx} : ∃ r, OpR X (binaryOp .Add) r ∧ R2S O r pAdd := by
  refine ⟨_, op_add.or op_add_str, ?_⟩
  intro W H x y p q z Q h rx ry hz k
  cases p with
  | int i =>
    cases q with
    | int j =>
      cases hz
      rw [rx.int, ry.int]
      exact .inl ⟨i, j, rfl, rfl, k W H _ (Stp.refl h) (Rep.int_iff.mpr rfl)⟩
    | _ => cases hz
  | str s =>
    cases q with
    | str t =>
      dsimp only [pAdd] at hz
      by_cases hl : s.length + t.length ≤ 1000000
      · rw [if_pos hl] at hz
        cases hz
        obtain ⟨e1, o1⟩ := rx.str
        obtain ⟨e2, o2⟩ := ry.str
        rw [e1, e2]
        exact .inr ⟨tx s, tx t, rfl, rfl, by rw [tx_len, tx_len]; exact size_of hl, k W H _ (Stp.refl h) (Rep.str_iff.mpr ⟨by rw [tx_app], o1.app o2⟩)⟩
      · rw [if_neg hl] at hz; cases hz
    | _ => cases hz
  | _ => cases q <;> cases hz
/-- two ints -/
theorem r2s_int {C : Int → Int → Prop} {g : Int → Int → V} {h : PV → PV → Option PV} {gp : Int → Int → PV} (hh : ∀ p q z, h p q = some z → ∃ i j, p = .int i ∧ q = .int j ∧ C i j ∧ z = gp i j) (hg : ∀ O W i j, Rep O W (gp i j) (g i j)) : R2S O (rI C g) h := by
  intro W H x y p q z Q h0 rx ry hz k
  obtain ⟨i, j, e1, e2, c, e3⟩ := hh p q z hz
  subst e1; subst e2; subst e3
  rw [rx.int, ry.int]
  exact ⟨i, j, rfl, rfl, c, k W H _ (Stp.refl h0) (hg _ _ i j)⟩
theorem r2s_int0 {g : Int → Int → V} {h : PV → PV → Option PV} {gp : Int → Int → PV} (hh : ∀ p q z, h p q = some z → ∃ i j, p = .int i ∧ q = .int j ∧ z = gp i j) (hg : ∀ O W i j, Rep O W (gp i j) (g i j)) : R2S O (rI0 g) h := by
  intro W H x y p q z Q h0 rx ry hz k
  obtain ⟨i, j, e1, e2, e3⟩ := hh p q z hz
  subst e1; subst e2; subst e3
  rw [rx.int, ry.int]
  exact ⟨i, j, rfl, rfl, k W H _ (Stp.refl h0) (hg _ _ i j)⟩
theorem r2s_sub : R2S O (rI0 fun i j => .int (i - j)) pSub := r2s_int0 (gp := fun i j => .int (i - j)) (fun p q z h => by cases p <;> cases q <;> cases h <;> exact ⟨_, _, rfl, rfl, rfl⟩) fun _ _ _ _ => Rep.int_iff.mpr rfl
theorem r2s_lt : R2S O (rI0 fun i j => .bl (decide (i < j))) pLt := r2s_int0 (gp := fun i j => .bl (decide (i < j))) (fun p q z h => by cases p <;> cases q <;> cases h <;> exact ⟨_, _, rfl, rfl, rfl⟩) fun _ _ _ _ => Rep.bl_iff.mpr rfl
theorem r2s_le : R2S O (rI0 fun i j => .bl (decide (i ≤ j))) pLe := r2s_int0 (gp := fun i j => .bl (decide (i ≤ j))) (fun p q z h => by cases p <;> cases q <;> cases h <;> exact ⟨_, _, rfl, rfl, rfl⟩) fun _ _ _ _ => Rep.bl_iff.mpr rfl
theorem r2s_gt : R2S O (rI0 fun i j => .bl (decide (j < i))) pGt := r2s_int0 (gp := fun i j => .bl (decide (j < i))) (fun p q z h => by cases p <;> cases q <;> cases h <;> exact ⟨_, _, rfl, rfl, rfl⟩) fun _ _ _ _ => Rep.bl_iff.mpr rfl
theorem r2s_ge : R2S O (rI0 fun i j => .bl (decide (j ≤ i))) pGe := r2s_int0 (gp := fun i j => .bl (decide (j ≤ i))) (fun p q z h => by cases p <;> cases q <;> cases h <;> exact ⟨_, _, rfl, rfl, rfl⟩) fun _ _ _ _ => Rep.bl_iff.mpr rfl
theorem r2s_mod : R2S O (rI (fun _ j => 0 < j) fun i j => .int (i % j)) pMod := r2s_int (gp := fun i j => .int (i % j)) (fun p q z h => by
  cases p with
  | int i =>
    cases q with
    | int j =>
      dsimp only [pMod] at h
      by_cases c : 0 < j
      · rw [if_pos c] at h
        cases h
        exact ⟨i, j, rfl, rfl, c, rfl⟩
      · rw [if_neg c] at h
        cases h
    | _ => cases h
  | _ => cases q <;> cases h) fun _ _ _ _ => Rep.int_iff.mpr rfl
theorem wide_of {a : Int} (h : wideI a = true) : a.natAbs < 2 ^ 4000 := of_decide_eq_true h
theorem small_of {a : Int} (h : smallI a = true) : -(2 ^ 64) < a ∧ a < 2 ^ 64 := of_decide_eq_true h
theorem r2s_div : R2S O (rI CDivW fun i j => .int (i / j)) pDiv := r2s_int (gp := fun i j => .int (i / j)) (fun p q z h => by
  cases p with
  | int i =>
    cases q with
    | int j =>
      dsimp only [pDiv] at h
      by_cases c : (0 < j && wideI j) = true
      · rw [if_pos c] at h
        cases h
        simp only [Bool.and_eq_true, decide_eq_true_eq] at c
        exact ⟨i, j, rfl, rfl, wide_div c.1 (wide_of c.2) (by decide) (by decide), rfl⟩
      · rw [if_neg c] at h
        cases h
    | _ => cases h
  | _ => cases q <;> cases h) fun _ _ _ _ => Rep.int_iff.mpr rfl
theorem r2s_pow : R2S O (rI CPow fun i j => .int (i ^ j.toNat)) pPow := r2s_int (gp := fun i j => .int (i ^ j.toNat)) (fun p q z h => by
  cases p with
  | int i =>
    cases q with
    | int j =>
      dsimp only [pPow] at h
      by_cases c : (0 ≤ j && j ≤ 1000 && smallI i) = true
      · rw [if_pos c] at h
        cases h
        simp only [Bool.and_eq_true, decide_eq_true_eq] at c
        have := small_of c.2
        exact ⟨i, j, rfl, rfl, ⟨c.1.1, by omega, by omega⟩, rfl⟩
      · rw [if_neg c] at h
        cases h
    | _ => cases h
  | _ => cases q <;> cases h) fun _ _ _ _ => Rep.int_iff.mpr rfl
theorem r2s_mul {X : Cx} : ∃ r, OpR X (binaryOp .Mult) r ∧ R2S O r pMul := by
  refine ⟨_, op_mul.or op_mulW, ?_⟩
  intro W H x y p q z Q h0 rx ry hz k
  cases p with
  | int i =>
    cases q with
    | int j =>
      dsimp only [pMul] at hz
      by_cases c : (smallI i || smallI j || (wideI i && wideI j)) = true
      · rw [if_pos c] at hz
        cases hz
        rw [rx.int, ry.int]
        simp only [Bool.or_eq_true, Bool.and_eq_true] at c
        rcases c with (c | c) | c
        · exact .inl ⟨i, j, rfl, rfl, .inl (small_of c), k W H _ (Stp.refl h0) (Rep.int_iff.mpr rfl)⟩
        · exact .inl ⟨i, j, rfl, rfl, .inr (small_of c), k W H _ (Stp.refl h0) (Rep.int_iff.mpr rfl)⟩
        · exact .inr ⟨i, j, rfl, rfl, wide_mul (wide_of c.1) (wide_of c.2) (by decide) (by decide) (by decide), k W H _ (Stp.refl h0) (Rep.int_iff.mpr rfl)⟩
      · rw [if_neg c] at hz
        cases hz
    | _ => cases hz
  | _ => cases q <;> cases hz
theorem r1s_neg : R1S O (rU fun i => .int (-i)) pNeg := by
  intro W H x p z Q h0 rx hz k
  cases p with
  | int i =>
    cases hz
    rw [rx.int]
    exact ⟨i, rfl, k W H _ (Stp.refl h0) (Rep.int_iff.mpr rfl)⟩
  | _ => cases hz

/-! ### == of data -/
mutual
def toD : PV → PyData
  | .non => .none
  | .bl b => .bool b
  | .int i => .int i
  | .str s => .str (tx s)
  | .lst xs => .list (toDs xs)
  | .tup xs => .tuple (toDs xs)
  | _ => .none
def toDs : List PV → List PyData
  | [] => []
  | x :: xs => toD x :: toDs xs
end
mutual
theorem Rep.dp {W : Wd} {H : Hp} (h : Hold W H) : ∀ (p : PV) (x : V), datP p = true → Rep O W p x → Dp O.K H x (toD p) ∧ PyData.canLay0 (toD p) = true
  | .non, x, _, r => by
    rw [Rep.non_iff.mp r]
    simp only [toD]
    exact ⟨.non, rfl⟩
  | .bl b, x, _, r => by
    rw [Rep.bl_iff.mp r]
    simp only [toD]
    exact ⟨.bl b, rfl⟩
  | .int b, x, _, r => by
    rw [Rep.int_iff.mp r]
    simp only [toD]
    exact ⟨.int b, rfl⟩
  | .str s, x, _, r => by
    obtain ⟨e, o⟩ := Rep.str_iff.mp r
    rw [e]
    simp only [toD]
    refine ⟨.str _, ?_⟩
    show (tx s).cps.all (· < 0x110000) = true
    simp only [tx, List.all_toArray, List.all_eq_true, decide_eq_true_eq]
    exact o
  | .lst ps, x, d, r => by
    obtain ⟨a, vs, e, l, rl⟩ := Rep.lst_iff.mp r
    subst e
    obtain ⟨d1, d2⟩ := RepL.dp h ps vs (by simpa only [datP] using d) rl
    simp only [toD]
    exact ⟨.lst (l.sq h) d1, by simpa only [PyData.canLay0] using d2⟩
  | .tup ps, x, d, r => by
    obtain ⟨a, vs, e, l, rl⟩ := Rep.tup_iff.mp r
    subst e
    obtain ⟨d1, d2⟩ := RepL.dp h ps vs (by simpa only [datP] using d) rl
    simp only [toD]
    exact ⟨.tup (SqT.of (l.sq h)) d1, by simpa only [PyData.canLay0] using d2⟩
  | .dct _, _, d, _ => by simp [datP] at d
  | .ob _ _, _, d, _ => by simp [datP] at d
  | .scr _, _, d, _ => by simp [datP] at d
theorem RepL.dp {W : Wd} {H : Hp} (h : Hold W H) : ∀ (ps : List PV) (vs : List V), datPs ps = true → RepL O W ps vs → DpAll O.K H vs (toDs ps) ∧ PyData.canLayAll0 (toDs ps) = true
  | [], vs, _, r => by
    rw [r.of_nil]
    simp only [toDs]
    exact ⟨.nil, rfl⟩
  | p :: ps, [], _, r => by simp only [RepL] at r; obtain ⟨_, _, e, _⟩ := r; cases e
  | p :: ps, v :: vs, d, r => by
    obtain ⟨r1, r2⟩ := RepL.cons_iff.mp r
    simp only [datPs, Bool.and_eq_true] at d
    obtain ⟨a1, a2⟩ := Rep.dp h p v d.1 r1
    obtain ⟨b1, b2⟩ := RepL.dp h ps vs d.2 r2
    simp only [toDs]
    exact ⟨.cons a1 b1, by simp only [PyData.canLayAll0, a2, b2, Bool.and_self]⟩
end
mutual
theorem dep_toD : ∀ p : PV, PyData.depth (toD p) = depP p
  | .non => rfl
  | .bl _ => rfl
  | .int _ => rfl
  | .str _ => rfl
  | .lst ps => by simp only [toD, PyData.depth, depP, dep_toDs ps]
  | .tup ps => by simp only [toD, PyData.depth, depP, dep_toDs ps]
  | .dct _ => rfl
  | .ob _ _ => rfl
  | .scr _ => rfl
theorem dep_toDs : ∀ ps : List PV, PyData.depthAll (toDs ps) = depPs ps
  | [] => rfl
  | p :: ps => by simp only [toDs, PyData.depthAll, depPs, dep_toD p, dep_toDs ps]
end
theorem tx_beq (s t : List Nat) : (tx s == tx t) = (s == t) := by
  rw [Bool.eq_iff_iff, beq_iff_eq, beq_iff_eq]
  exact ⟨tx_inj, fun h => by rw [h]⟩
mutual
theorem eqv_toD : ∀ p q : PV, datP p = true → datP q = true → PyData.eqv (toD p) (toD q) = eqP p q
  | .non, q, _, d => by cases q <;> first | rfl | simp [datP] at d
  | .bl a, q, _, d => by cases q <;> first | rfl | simp [datP] at d
  | .int a, q, _, d => by cases q <;> first | rfl | simp [datP] at d
  | .str a, q, _, d => by
    cases q with
    | str b =>
      show (tx a == tx b) = (a == b)
      exact tx_beq a b
    | _ => first | rfl | simp [datP] at d
  | .lst a, q, d1, d => by
    cases q with
    | lst b =>
      simp only [toD, PyData.eqv, eqP]
      exact eqv_toDs a b (by simpa only [datP] using d1) (by simpa only [datP] using d)
    | _ => first | rfl | simp [datP] at d
  | .tup a, q, d1, d => by
    cases q with
    | tup b =>
      simp only [toD, PyData.eqv, eqP]
      exact eqv_toDs a b (by simpa only [datP] using d1) (by simpa only [datP] using d)
    | _ => first | rfl | simp [datP] at d
  | .dct _, _, d, _ => by simp [datP] at d
  | .ob _ _, _, d, _ => by simp [datP] at d
  | .scr _, _, d, _ => by simp [datP] at d
theorem eqv_toDs : ∀ ps qs : List PV, datPs ps = true → datPs qs = true → PyData.eqvAll (toDs ps) (toDs qs) = eqPs ps qs
  | [], [], _, _ => rfl
  | [], q :: qs, _, _ => rfl
  | p :: ps, [], _, _ => rfl
  | p :: ps, q :: qs, d1, d2 => by
    simp only [datPs, Bool.and_eq_true] at d1 d2
    simp only [toDs, PyData.eqvAll, eqPs, eqv_toD p q d1.1 d2.1, eqv_toDs ps qs d1.2 d2.2]
end
theorem RepB.dp {W : Wd} {H : Hp} {p : PV} {x : V} (h : Hold W H) (r : RepB O W H p x) (d : shp p = true) : Dp O.K H x (toD p) ∧ SeqAt.shaped (toD p) = true := by
  unfold shp at d
  simp only [Bool.and_eq_true, decide_eq_true_eq] at d
  have key : Dp O.K H x (toD p) ∧ PyData.canLay0 (toD p) = true := by
    rcases r with r | ⟨a, vs, ps, e1, e2, e3, e4, e5⟩
    · exact Rep.dp h p x d.1 r
    · subst e1; subst e2
      obtain ⟨d1, d2⟩ := RepL.dp h ps vs (by simpa only [datP] using d.1) e5
      simp only [toD]
      exact ⟨.lst (SqL.of e3) d1, by simpa only [PyData.canLay0] using d2⟩
  refine ⟨key.1, ?_⟩
  unfold SeqAt.shaped
  rw [key.2, dep_toD]
  simpa using d.2
theorem r2s_eq : R2S O (rEqD O.K) pEq := by
  intro W H x y p q z Q h0 rx ry hz k
  unfold pEq at hz
  by_cases c : (shp p && shp q) = true
  · rw [if_pos c] at hz
    cases hz
    simp only [Bool.and_eq_true] at c
    obtain ⟨a1, a2⟩ := rx.dp h0 c.1
    obtain ⟨b1, b2⟩ := ry.dp h0 c.2
    have d1 : datP p = true := by have := c.1; unfold shp at this; simp only [Bool.and_eq_true] at this; exact this.1
    have d2 : datP q = true := by have := c.2; unfold shp at this; simp only [Bool.and_eq_true] at this; exact this.1
    exact ⟨toD p, toD q, a1, b1, a2, b2, k W H _ (Stp.refl h0) (Rep.bl_iff.mpr (by rw [eqv_toD p q d1 d2]))⟩
  · rw [if_neg c] at hz; cases hz
theorem r2s_ne : R2S O (rNeD O.K) pNe := by
  intro W H x y p q z Q h0 rx ry hz k
  unfold pNe at hz
  by_cases c : (shp p && shp q) = true
  · rw [if_pos c] at hz
    cases hz
    simp only [Bool.and_eq_true] at c
    obtain ⟨a1, a2⟩ := rx.dp h0 c.1
    obtain ⟨b1, b2⟩ := ry.dp h0 c.2
    have d1 : datP p = true := by have := c.1; unfold shp at this; simp only [Bool.and_eq_true] at this; exact this.1
    have d2 : datP q = true := by have := c.2; unfold shp at this; simp only [Bool.and_eq_true] at this; exact this.1
    exact ⟨toD p, toD q, a1, b1, a2, b2, k W H _ (Stp.refl h0) (Rep.bl_iff.mpr (by rw [eqv_toD p q d1 d2]))⟩
  · rw [if_neg c] at hz; cases hz
theorem RepB.isNon {W : Wd} {H : Hp} {p : PV} {x : V} (r : RepB O W H p x) : decide (x = .non) = isNon p := by
  rcases r with r | ⟨a, vs, ps, e1, e2, _⟩
  · cases p with
    | non => rw [Rep.non_iff.mp r]; rfl
    | bl b => rw [Rep.bl_iff.mp r]; rfl
    | int b => rw [Rep.int_iff.mp r]; rfl
    | str b => rw [(Rep.str_iff.mp r).1]; rfl
    | lst b => obtain ⟨a, vs, e, _⟩ := Rep.lst_iff.mp r; rw [e]; rfl
    | tup b => obtain ⟨a, vs, e, _⟩ := Rep.tup_iff.mp r; rw [e]; rfl
    | scr b => obtain ⟨a, vs, e, _⟩ := Rep.scr_iff.mp r; rw [e]; rfl
    | dct b => simp only [Rep] at r; obtain ⟨a, e, _⟩ := r; rw [e]; rfl
    | ob b c => simp only [Rep] at r; obtain ⟨a, e, _⟩ := r; rw [e]; rfl
  · rw [e1, e2]; rfl
theorem r2s_is {X : Cx} : ∃ r, OpR X (compareOp .Is) r ∧ R2S O r pIs2 := by
  refine ⟨_, op_isN.or op_isBl, ?_⟩
  intro W H x y p q z Q h0 rx ry hz k
  cases q with
  | non =>
    have hz' : some (PV.bl (isNon p)) = some z := by cases p <;> exact hz
    cases hz'
    rw [ry.non]
    exact .inl ⟨rfl, k W H _ (Stp.refl h0) (Rep.bl_iff.mpr (by rw [rx.isNon]))⟩
  | bl b =>
    cases p with
    | bl a =>
      cases hz
      rw [rx.bl, ry.bl]
      exact .inr ⟨a, b, rfl, rfl, k W H _ (Stp.refl h0) (Rep.bl_iff.mpr (by cases a <;> cases b <;> rfl))⟩
    | _ => cases hz
  | _ => cases p <;> cases hz
theorem r2s_isnot {X : Cx} : ∃ r, OpR X (compareOp .IsNot) r ∧ R2S O r pNot2 := by
  refine ⟨_, op_notN.or op_notBl, ?_⟩
  intro W H x y p q z Q h0 rx ry hz k
  cases q with
  | non =>
    have hz' : some (PV.bl (!isNon p)) = some z := by cases p <;> exact hz
    cases hz'
    rw [ry.non]
    exact .inl ⟨rfl, k W H _ (Stp.refl h0) (Rep.bl_iff.mpr (by rw [rx.isNon]))⟩
  | bl b =>
    cases p with
    | bl a =>
      cases hz
      rw [rx.bl, ry.bl]
      exact .inr ⟨a, b, rfl, rfl, k W H _ (Stp.refl h0) (Rep.bl_iff.mpr (by cases a <;> cases b <;> rfl))⟩
    | _ => cases hz
  | _ => cases p <;> cases hz
theorem r2s_inS : R2S O (fun x y H Q => ∃ (c : Nat) (z : Str), x = .str ⟨#[c]⟩ ∧ y = .str z ∧ Q (.bl (decide (c ∈ z.cps.toList))) H) pInS := by
  intro W H x y p q z Q h0 rx ry hz k
  unfold pInS at hz
  split at hz
  · rename_i c s
    cases hz
    rw [rx.str.1, ry.str.1]
    exact ⟨c, tx s, rfl, rfl, k W H _ (Stp.refl h0) (Rep.bl_iff.mpr (congrArg V.bl (decide_eq_decide.mpr (by simp [tx]))))⟩
  · cases hz
theorem r2s_ninS : R2S O (fun x y H Q => ∃ (c : Nat) (z : Str), x = .str ⟨#[c]⟩ ∧ y = .str z ∧ Q (.bl (!decide (c ∈ z.cps.toList))) H) pNinS := by
  intro W H x y p q z Q h0 rx ry hz k
  unfold pNinS at hz
  split at hz
  · rename_i c s
    cases hz
    rw [rx.str.1, ry.str.1]
    exact ⟨c, tx s, rfl, rfl, k W H _ (Stp.refl h0) (Rep.bl_iff.mpr (congrArg (fun b => V.bl (!b)) (decide_eq_decide.mpr (by simp [tx]))))⟩
  · cases hz
theorem atN_eq {α : Type} (xs : List α) (i : Int) (v : α) (h : atN xs i = some v) : atI xs i = some v := by
  unfold atN at h
  unfold atI ixN
  by_cases h0 : 0 ≤ i
  · rw [if_pos h0] at h ⊢
    have hl := (List.getElem?_eq_some_iff.mp h).1
    rw [if_pos (by omega)]
    exact h
  · rw [if_neg h0] at h ⊢
    by_cases h1 : -(xs.length : Int) ≤ i
    · rw [if_pos h1] at h ⊢
      exact h
    · rw [if_neg h1] at h; cases h
theorem atN_rep {W : Wd} {ps : List PV} {vs : List V} {i : Int} {z : PV} (r : RepL O W ps vs) (h : atN ps i = some z) : ∃ v, atN vs i = some v ∧ Rep O W z v := by
  unfold atN at h ⊢
  rw [← r.len]
  by_cases h0 : 0 ≤ i
  · rw [if_pos h0] at h ⊢
    exact r.get h
  · rw [if_neg h0] at h ⊢
    by_cases h1 : -(ps.length : Int) ≤ i
    · rw [if_pos h1] at h ⊢
      exact r.get h
    · rw [if_neg h1] at h; cases h
theorem r2s_ix : R2S O (rIx O.K) pIx := by
  intro W H x y p q z Q h0 rx ry hz k
  unfold pIx at hz
  split at hz
  · rename_i xs i
    obtain ⟨a, vs, e, ha, r⟩ := rx.lst h0
    obtain ⟨v, e2, rv⟩ := atN_rep r hz
    rw [e, ry.int]
    exact .inl ⟨a, vs, i, v, rfl, rfl, SqL.of ha, atN_eq _ _ _ e2, k W H _ (Stp.refl h0) rv⟩
  · rename_i xs i
    obtain ⟨a, vs, e, ha, r⟩ := rx.scr
    obtain ⟨v, e2, rv⟩ := atN_rep r hz
    rw [e, ry.int]
    exact .inl ⟨a, vs, i, v, rfl, rfl, ha.sq h0, atN_eq _ _ _ e2, k W H _ (Stp.refl h0) rv⟩
  · rename_i xs i
    obtain ⟨a, vs, e, ha, r⟩ := rx.tup
    obtain ⟨v, e2, rv⟩ := atN_rep r hz
    rw [e, ry.int]
    exact .inr (.inl ⟨a, vs, i, v, rfl, rfl, SqT.of (ha.sq h0), atN_eq _ _ _ e2, k W H _ (Stp.refl h0) rv⟩)
  · rename_i s i
    by_cases c : s.length ≤ 1000000
    · rw [if_pos c] at hz
      cases e2 : atN s i with
      | none => rw [e2] at hz; cases hz
      | some ch =>
        rw [e2] at hz
        cases hz
        obtain ⟨e1, o1⟩ := rx.str
        rw [e1, ry.int]
        have hm : ch ∈ s := by
          have := atI_get (atN_eq _ _ _ e2)
          obtain ⟨j, _, q, _⟩ := this
          exact List.mem_of_getElem? q
        exact .inr (.inr ⟨tx s, i, ch, rfl, rfl, by rw [tx_len]; exact size_of c, by show atI s.toArray.toList i = some ch; exact atN_eq _ _ _ e2, k W H _ (Stp.refl h0) (Rep.str_iff.mpr ⟨rfl, fun d hd => by simp at hd; subst hd; exact o1 _ hm⟩)⟩)
    · rw [if_neg c] at hz; cases hz
  · cases hz
end
end JP

set_option Elab.async false
set_option linter.all false
set_option maxRecDepth 100000
/-! JP5: expressions made of others, displays, calls. -/
namespace JP
open PySem L2
section
variable {X : Cx} {Y : Cy} {e a b c : Expr} {es rest : List Expr} {f g k : EX} {pos p : Pos}
/-! ### and, or, not -/
theorem ge_and (ha : PE X a (tP Y f)) (hb : PE X (.BoolOp .And (b :: rest) pos) (tP Y g)) : PE X (.BoolOp .And (a :: b :: rest) pos) (tP Y (eAnd f g)) := by
  refine pe_imp (pe_and ha hb) fun σ H Q ⟨W, env, E, r⟩ => ⟨W, env, E, (RP.bind E.ho r).mono fun W1 H1 q s1 k1 x rx => ?_⟩
  cases q with
  | bl d =>
    refine ⟨d, Rep.bl_iff.mp rx, ?_⟩
    cases d with
    | true => exact ⟨W1, env, E.step s1, k1⟩
    | false => exact k1.now (E.step s1).ho _ (Rep.bl_iff.mpr rfl)
  | _ => exact False.elim k1
theorem ge_or (ha : PE X a (tP Y f)) (hb : PE X (.BoolOp .Or (b :: rest) pos) (tP Y g)) : PE X (.BoolOp .Or (a :: b :: rest) pos) (tP Y (eOr f g)) := by
  refine pe_imp (pe_or ha hb) fun σ H Q ⟨W, env, E, r⟩ => ⟨W, env, E, (RP.bind E.ho r).mono fun W1 H1 q s1 k1 x rx => ?_⟩
  cases q with
  | bl d =>
    refine ⟨d, Rep.bl_iff.mp rx, ?_⟩
    cases d with
    | false => exact ⟨W1, env, E.step s1, k1⟩
    | true => exact k1.now (E.step s1).ho _ (Rep.bl_iff.mpr rfl)
  | _ => exact False.elim k1
theorem ge_one {op} (h : PE X a (tP Y f)) : PE X (.BoolOp op [a] pos) (tP Y f) := pe_one h
theorem ge_not (ha : PE X a (tP Y f)) : PE X (.UnaryOp .Not a pos) (tP Y (eNot f)) := by
  refine pe_imp (pe_not ha) fun σ H Q ⟨W, env, E, r⟩ => ⟨W, env, E, (RP.bind E.ho r).mono fun W1 H1 q s1 k1 x rx => ?_⟩
  cases q with
  | bl d => exact ⟨d, Rep.bl_iff.mp rx, k1.now (E.step s1).ho _ (Rep.bl_iff.mpr rfl)⟩
  | _ => exact False.elim k1
theorem gw_and (ha : PT X a (tT Y f)) (hb : PW X (.BoolOp .And (b :: rest) pos) (tT Y g)) : PW X (.BoolOp .And (a :: b :: rest) pos) (tT Y (eAnd f g)) := by
  refine pw_imp (pw_and ha hb) fun σ H Q ⟨W, env, E, r⟩ => ⟨W, env, E, (RP.bind E.ho r).mono fun W1 H1 q s1 k1 => ?_⟩
  cases q with
  | bl d =>
    refine ⟨d, rfl, ?_⟩
    cases d with
    | true => exact ⟨W1, env, E.step s1, k1⟩
    | false =>
      obtain ⟨b', e', q'⟩ := k1.now (E.step s1).ho
      cases e'
      exact q'
  | _ => exact False.elim k1
theorem gw_or (ha : PT X a (tT Y f)) (hb : PW X (.BoolOp .Or (b :: rest) pos) (tT Y g)) : PW X (.BoolOp .Or (a :: b :: rest) pos) (tT Y (eOr f g)) := by
  refine pw_imp (pw_or ha hb) fun σ H Q ⟨W, env, E, r⟩ => ⟨W, env, E, (RP.bind E.ho r).mono fun W1 H1 q s1 k1 => ?_⟩
  cases q with
  | bl d =>
    refine ⟨d, rfl, ?_⟩
    cases d with
    | false => exact ⟨W1, env, E.step s1, k1⟩
    | true =>
      obtain ⟨b', e', q'⟩ := k1.now (E.step s1).ho
      cases e'
      exact q'
  | _ => exact False.elim k1
theorem gw_and1 (ha : PT X a (tT Y f)) : PW X (.BoolOp .And [a] pos) (tT Y f) := pw_and1 ha
theorem gw_or1 (ha : PT X a (tT Y f)) : PW X (.BoolOp .Or [a] pos) (tT Y f) := pw_or1 ha
theorem gt_not (ha : PT X a (tT Y f)) : PT X (.UnaryOp .Not a pos) (tT Y (eNot f)) := by
  refine pt_imp (pt_not ha) fun σ H Q ⟨W, env, E, r⟩ => ⟨W, env, E, (RP.bind E.ho r).mono fun W1 H1 q s1 k1 => ?_⟩
  cases q with
  | bl d =>
    obtain ⟨b', e', q'⟩ := k1.now (E.step s1).ho
    cases e'
    exact ⟨d, rfl, q'⟩
  | _ => exact False.elim k1
theorem t_chain {r r' : R2} {h h' : PV → PV → Option PV} (hr : R2S Y.O r h) (hr' : R2S Y.O r' h') : ∀ σ H Q, tP Y (eChain h h' f g k) σ H Q → tChain r r' (tB Y f) (tB Y g) (tB Y k) σ H Q := by
  intro σ H Q ⟨W, env, E, r0⟩
  refine ⟨W, env, E, (RP.bind E.ho r0).mono fun W1 H1 p s1 k1 x rx => ?_⟩
  have E1 := E.step s1
  refine ⟨W1, env, E1, (RP.bind E1.ho k1).mono fun W2 H2 q s2 k2 y ry => ?_⟩
  have E2 := E1.step s2
  have k3 := RP.bind E2.ho k2
  obtain ⟨z, hz, kz⟩ := RP.ofO k3
  refine hr W2 H2 x y p q z _ E2.ho (rx.step s2) ry hz fun W3 H3 v s3 rv => ?_
  have E3 := E2.step s3
  have k4 := kz W3 H3 s3
  cases z with
  | bl d =>
    refine ⟨d, Rep.bl_iff.mp rv, ?_⟩
    cases d with
    | false => exact k4.now E3.ho _ (Rep.bl_iff.mpr rfl)
    | true =>
      refine ⟨W3, env, E3, (RP.bind E3.ho k4).mono fun W4 H4 w s4 k5 u ru => ?_⟩
      have E4 := E3.step s4
      obtain ⟨z', hz', kz'⟩ := RP.ofO k5
      exact hr' W4 H4 y u q w z' Q E4.ho ((ry.step s3).step s4) ru hz' fun W' H' v t rv => kz' W' H' t v rv
  | _ => exact False.elim k4
theorem ge_chain {op op' : CmpOp} {r r' : R2} {h h' : PV → PV → Option PV} (ho : OpR X (compareOp op) r) (ho' : OpR X (compareOp op') r') (hr : R2S Y.O r h) (hr' : R2S Y.O r' h') (ha : PE X a (tB Y f)) (hb : PE X b (tB Y g)) (hc : PE X c (tB Y k)) (hm : lastMarks [op, op'] [b, c] = false := by with_unfolding_all rfl) :
    PE X (.Compare a [op, op'] [b, c] pos) (tP Y (eChain h h' f g k)) := pe_imp (pe_chain ho ho' ha hb hc hm) (t_chain hr hr')
theorem gt_chain {op op' : CmpOp} {r r' : R2} {h h' : PV → PV → Option PV} (ho : OpR X (compareOp op) r) (ho' : OpR X (compareOp op') r') (hr : R2S Y.O r h) (hr' : R2S Y.O r' h') (ha : PE X a (tB Y f)) (hb : PE X b (tB Y g)) (hc : PE X c (tB Y k)) (hm : lastMarks [op, op'] [b, c] = false := by with_unfolding_all rfl) :
    PT X (.Compare a [op, op'] [b, c] pos) (tT Y (eChain h h' f g k)) := pt_imp (pt_chain ho ho' ha hb hc hm) (t_test (t_chain hr hr'))

/-! ### places, slices -/
theorem ge_ix (hK : Y.O.K = X.K) (ha : PE X a (tB Y f)) (hb : PE X b (tB Y g)) (hs : PlainIx b := by exact fun _ _ => rfl) : PE X (.Subscript a b pos) (tP Y (eOp pIx f g)) :=
  pe_imp (pe_ix ix_seq ha hb hs) (t_op (by rw [← hK]; exact r2s_ix))
def tOx (Y : Cy) (f : OX) : TO := fun σ H Q => ∃ W env, EnvR Y W H σ env ∧ RP Y σ W H (f env) fun W' H' o => Q o H'
theorem go_no : PO X none (tOx Y oNo) := po_imp po_none fun σ H Q ⟨W, env, E, r⟩ => r.now E.ho
theorem go_some (h : PE X e (tP Y f)) : PO X (some e) (tOx Y (oSome f)) := by
  refine po_imp (po_some h) fun σ H Q ⟨W, env, E, r⟩ => ⟨W, env, E, (RP.bind E.ho r).mono fun W1 H1 q s1 k1 x rx => ?_⟩
  cases q with
  | int i => exact ⟨i, Rep.int_iff.mp rx, k1.now (E.step s1).ho⟩
  | _ => exact False.elim k1
theorem loI_eq (n : Nat) (o : Option Int) : HT.sIx n 0 o = loI n o := by cases o <;> rfl
theorem hiI_eq (n : Nat) (o : Option Int) : HT.sIx n n o = hiI n o := by cases o <;> rfl
theorem cutN_rep {O : ObS} {W : Wd} {ps : List PV} {vs : List V} (lo hi : Option Int) (r : RepL O W ps vs) : RepL O W (cutN ps lo hi) (cutV vs lo hi) := by
  unfold cutN cutV
  rw [loI_eq, hiI_eq, ← r.len]
  exact (r.drop _).take _
variable {lo hi : Option Expr} {fl fh : OX} {p2 : Pos}
theorem ge_slS (ha : PE X e (tB Y f)) (hl : PO X lo (tOx Y fl)) (hu : PO X hi (tOx Y fh)) : PE X (.Subscript e (.Slice lo hi none p2) pos) (tP Y (eSlS f fl fh)) := by
  refine pe_imp (pe_slice sl_str ha hl hu) fun σ H Q ⟨W, env, E, r⟩ => ⟨W, env, E, (RP.bind E.ho r).mono fun W1 H1 q s1 k1 x rx => ?_⟩
  have E1 := E.step s1
  refine ⟨W1, env, E1, (RP.bind E1.ho k1).mono fun W2 H2 l s2 k2 => ?_⟩
  have E2 := E1.step s2
  refine ⟨W2, env, E2, (RP.bind E2.ho k2).mono fun W3 H3 u s3 k3 => ?_⟩
  have E3 := E2.step s3
  obtain ⟨z, hz, kz⟩ := RP.ofO k3
  cases q with
  | str s =>
    dsimp only [cutS] at hz
    by_cases c : s.length ≤ 1000000
    · rw [if_pos c] at hz
      cases hz
      obtain ⟨e1, o1⟩ := rx.str
      refine ⟨tx s, e1, by rw [tx_len]; exact size_of c, kz W3 H3 (Stp.refl E3.ho) _ (Rep.str_iff.mpr ⟨?_, o1.sub fun d hd => ?_⟩)⟩
      · unfold L2.cutS cutN
        rw [loI_eq, hiI_eq, tx_len]
        rfl
      · unfold cutN at hd
        exact List.mem_of_mem_drop (List.mem_of_mem_take hd)
    · rw [if_neg c] at hz; cases hz
  | _ => cases hz
theorem gf_sl (hK : Y.O.K = X.K) (ha : PE X e (tB Y f)) (hl : PO X lo (tOx Y fl)) (hu : PO X hi (tOx Y fh)) : PE X (.Subscript e (.Slice lo hi none p2) pos) (tF Y (lSl f fl fh)) := by
  refine pe_imp (pe_slice sl_list ha hl hu) fun σ H Q ⟨W, env, E, r⟩ => ⟨W, env, E, (RP.bind E.ho r).mono fun W1 H1 q s1 k1 x rx => ?_⟩
  have E1 := E.step s1
  refine ⟨W1, env, E1, (RP.bind E1.ho k1).mono fun W2 H2 l s2 k2 => ?_⟩
  have E2 := E1.step s2
  refine ⟨W2, env, E2, (RP.bind E2.ho k2).mono fun W3 H3 u s3 k3 => ?_⟩
  have E3 := E2.step s3
  obtain ⟨z, hz, kz⟩ := RP.ofO k3
  have key : ∃ a xs, x = .ref a ∧ SqL X.K H3 a xs ∧ RepL Y.O W3 z (cutV xs l u) := by
    unfold cutL at hz
    split at hz
    · cases hz
      obtain ⟨a, vs, e, ha, r⟩ := ((rx.step s2).step s3).lst E3.ho
      exact ⟨a, vs, e, SqL.of ha, cutN_rep _ _ r⟩
    · cases hz
      obtain ⟨a, vs, e, ha, r⟩ := ((rx.step s2).step s3).scr
      exact ⟨a, vs, e, by rw [← hK]; exact ha.sq E3.ho, cutN_rep _ _ r⟩
    · cases hz
  obtain ⟨a, xs, e1, e2, e3⟩ := key
  refine ⟨a, xs, e1, e2, fun q hq => ?_⟩
  have t : Stp W3 H3 W3 (upd H3 q (.lst (cutV xs l u))) := Stp.new0 E3.ho hq
  have nb : H q = none := (((s1.trans E.ho s2).trans E.ho s3)).back E.ho hq
  exact kz W3 _ t q _ nb (E3.ho.none hq) upd_same e3

/-! ### arguments -/
variable {md : List Bool} {fa : AX}
theorem ga_nil : PA X [] (tAr Y [] aNil) := pa_imp pa_nil fun σ H Q ⟨W, env, E, r⟩ => r.now E.ho [] ⟨rfl, rfl⟩
theorem ArgR.step {O : ObS} {W W' : Wd} {H H' : Hp} (s : Stp W H W' H') : ∀ {md : List Bool} {ps : List PV} {vs : List V}, ArgR O W H md ps vs → ArgR O W' H' md ps vs
  | [], _, _, h => h
  | m :: ms, _, _, h => by
    obtain ⟨p, pr, v, vr, e1, e2, h1, h2⟩ := h
    refine ⟨p, pr, v, vr, e1, e2, ?_, ArgR.step s h2⟩
    cases m with
    | true => exact RepB.step s h1
    | false => exact Rep.mono s.le p h1
theorem ga_b (ha : PE X e (tB Y f)) (hr : PA X es (tAr Y md fa)) (hs : starEach (e :: es) X.env = (false, eval e X.env) :: starEach es X.env := by rfl) : PA X (e :: es) (tAr Y (true :: md) (aCons f fa)) := by
  refine pa_imp (pa_cons ha hr hs) fun σ H Q ⟨W, env, E, r⟩ => ⟨W, env, E, (RP.bind E.ho r).mono fun W1 H1 q s1 k1 x rx => ?_⟩
  have E1 := E.step s1
  refine ⟨W1, env, E1, (RP.bind E1.ho k1).mono fun W2 H2 ps s2 k2 xs rxs => ?_⟩
  exact k2.now (E1.step s2).ho (x :: xs) ⟨q, ps, x, xs, rfl, rfl, rx.step s2, rxs⟩
theorem ga_v (ha : PE X e (tP Y f)) (hr : PA X es (tAr Y md fa)) (hs : starEach (e :: es) X.env = (false, eval e X.env) :: starEach es X.env := by rfl) : PA X (e :: es) (tAr Y (false :: md) (aCons f fa)) := by
  refine pa_imp (pa_cons ha hr hs) fun σ H Q ⟨W, env, E, r⟩ => ⟨W, env, E, (RP.bind E.ho r).mono fun W1 H1 q s1 k1 x rx => ?_⟩
  have E1 := E.step s1
  refine ⟨W1, env, E1, (RP.bind E1.ho k1).mono fun W2 H2 ps s2 k2 xs rxs => ?_⟩
  exact k2.now (E1.step s2).ho (x :: xs) ⟨q, ps, x, xs, rfl, rfl, rx.mono s2.le, rxs⟩
theorem ArgR.len {O : ObS} {W : Wd} {H : Hp} : ∀ {md : List Bool} {ps : List PV} {vs : List V}, ArgR O W H md ps vs → vs.length = md.length ∧ ps.length = md.length
  | [], _, _, ⟨h1, h2⟩ => by rw [h1, h2]; exact ⟨rfl, rfl⟩
  | m :: ms, _, _, h => by
    obtain ⟨p, pr, v, vr, e1, e2, _, h2⟩ := h
    have := h2.len
    rw [e1, e2, List.length_cons, List.length_cons, List.length_cons, this.1, this.2]
    exact ⟨rfl, rfl⟩
theorem ArgR.all {O : ObS} {W : Wd} {H : Hp} : ∀ {md : List Bool} {ps : List PV} {vs : List V}, md.all (!·) = true → ArgR O W H md ps vs → RepL O W ps vs
  | [], _, _, _, ⟨h1, h2⟩ => by rw [h1, h2]; exact RepL.nil
  | m :: ms, _, _, hm, h => by
    obtain ⟨p, pr, v, vr, e1, e2, h1, h2⟩ := h
    simp only [List.all_cons, Bool.and_eq_true] at hm
    cases m with
    | true => exact absurd hm.1 (by decide)
    | false =>
      rw [e1, e2]
      exact RepL.cons h1 (ArgR.all hm.2 h2)
/-! ### displays -/
theorem ge_tup {x1} (h : PA X es (tAr Y md fa)) (hm : md.all (!·) = true := by rfl) (hl : md.length ≤ 1000000 := by decide) : PE X (.Tuple es x1 pos) (tP Y (eTup fa)) := by
  refine pe_imp (pe_tup h) fun σ H Q ⟨W, env, E, r⟩ => ⟨W, env, E, (RP.bind E.ho r).mono fun W1 H1 ps s1 k1 xs rx => ?_⟩
  have E1 := E.step s1
  refine ⟨by rw [rx.len.1]; exact size_of hl, fun q hq => ?_⟩
  exact k1 (putW W1 q (.tup xs)) _ (Stp.new E1.ho hq) (.ref q) (Rep.fixT (E1.ho.none hq) (ArgR.all hm rx))
theorem RP.later {α : Type} {σ : St} {W : Wd} {H : Hp} {r : R α} {k : Wd → Hp → α → Prop} (h0 : Hold W H) (h : RP Y σ W H r k) : RP Y σ W H r fun W1 H1 a => ∀ W2 H2, Stp W1 H1 W2 H2 → k W2 H2 a := by
  cases r with
  | ok a => exact fun W' H' t W2 H2 t2 => h W2 H2 (t.trans h0 t2)
  | ex e => exact h
  | bad => exact h
theorem gf_lst (h : PA X es (tAr Y md fa)) (hm : md.all (!·) = true := by rfl) (hl : md.length ≤ 1000000 := by decide) : PE X (.List es pos) (tF Y fa) := by
  refine pe_imp (pe_lst h) fun σ H Q ⟨W, env, E, r⟩ => ⟨W, env, E, (RP.later E.ho r).mono fun W1 H1 ps s1 k1 xs rx => ?_⟩
  have E1 := E.step s1
  refine ⟨by rw [rx.len.1]; exact size_of hl, fun q hq => ?_⟩
  exact k1 W1 _ (Stp.new0 E1.ho hq) q xs (s1.back E.ho hq) (E1.ho.none hq) upd_same (ArgR.all hm rx)

/-! ### calls of built-ins -/
def CRS (O : ObS) (r : List V → Hp → VK → Prop) (md : List Bool) (h : List PV → Option PV) : Prop := ∀ (W : Wd) (H : Hp) (ps : List PV) (xs : List V) (z : PV) (Q : VK), Hold W H → ArgR O W H md ps xs → h ps = some z → (∀ W' H' v, Stp W H W' H' → Rep O W' z v → Q v H') → r xs H Q
def CRF (O : ObS) (r : List V → Hp → VK → Prop) (md : List Bool) (h : List PV → Option (List PV)) : Prop := ∀ (W : Wd) (H : Hp) (ps : List PV) (xs : List V) (z : List PV) (Q : VK), Hold W H → ArgR O W H md ps xs → h ps = some z → (∀ W' H' a vs, Stp W H W' H' → H a = none → W' a = none → H' a = some (.lst vs) → RepL O W' z vs → Q (.ref a) H') → r xs H Q
variable {x : Str} {id T : String} {r : List V → Hp → VK → Prop}
theorem t_cb {h : List PV → Option PV} (hr : CRS Y.O r md h) : ∀ σ H Q, tP Y (eCB h fa) σ H Q → tCB r (tAr Y md fa) σ H Q := by
  intro σ H Q ⟨W, env, E, k⟩
  refine ⟨W, env, E, (RP.bind E.ho k).mono fun W1 H1 ps s1 k1 xs rx => ?_⟩
  obtain ⟨z, hz, kz⟩ := RP.ofO k1
  exact hr W1 H1 ps xs z Q (E.step s1).ho rx hz fun W' H' v t rv => kz W' H' t v rv
theorem t_cbF {h : List PV → Option (List PV)} (hr : CRF Y.O r md h) : ∀ σ H Q, tF Y (lCB h fa) σ H Q → tCB r (tAr Y md fa) σ H Q := by
  intro σ H Q ⟨W, env, E, k⟩
  refine ⟨W, env, E, (RP.bind E.ho k).mono fun W1 H1 ps s1 k1 xs rx => ?_⟩
  obtain ⟨z, hz, kz⟩ := RP.ofO k1
  exact hr W1 H1 ps xs z Q (E.step s1).ho rx hz fun W' H' a vs t n w h' rl => kz W' H' t a vs (s1.back E.ho n) w h' rl
theorem ge_callB {h : List PV → Option PV} (hc : CallR X (.builtin id) r) (hr : CRS Y.O r md h) (hg : Gl X x) (hm : X.mg x = none) (hv : bootBuiltins x = some (.builtin id)) (ha : PA X (e :: es) (tAr Y md fa)) (hn : x ≠ "__name__" := by decide) (hdb : (x == ("__debug__" : Str)) = false := by decide) (he : starEach (e :: es) X.env = (false, eval e X.env) :: starEach es X.env := by rfl) (hpl : (backTo pos (starEach es X.env)).any (·.1) = false := by rfl) :
    PE X (.Call (.Name x p) (e :: es) [] pos) (tP Y (eCB h fa)) := pe_imp (pe_callB hc hg hm hv ha hn hdb he hpl) (t_cb hr)
theorem ge_callT {h : List PV → Option PV} (hc : CallR X (.type T) r) (hr : CRS Y.O r md h) (hg : Gl X x) (hm : X.mg x = none) (hv : bootBuiltins x = some (.type T)) (ha : PA X (e :: es) (tAr Y md fa)) (hn : x ≠ "__name__" := by decide) (hdb : (x == ("__debug__" : Str)) = false := by decide) (he : starEach (e :: es) X.env = (false, eval e X.env) :: starEach es X.env := by rfl) (hpl : (backTo pos (starEach es X.env)).any (·.1) = false := by rfl) :
    PE X (.Call (.Name x p) (e :: es) [] pos) (tP Y (eCB h fa)) := pe_imp (pe_callTy hc hg hm hv ha hn hdb he hpl) (t_cb hr)
theorem gf_callT {h : List PV → Option (List PV)} (hc : CallR X (.type T) r) (hr : CRF Y.O r md h) (hg : Gl X x) (hm : X.mg x = none) (hv : bootBuiltins x = some (.type T)) (ha : PA X (e :: es) (tAr Y md fa)) (hn : x ≠ "__name__" := by decide) (hdb : (x == ("__debug__" : Str)) = false := by decide) (he : starEach (e :: es) X.env = (false, eval e X.env) :: starEach es X.env := by rfl) (hpl : (backTo pos (starEach es X.env)).any (·.1) = false := by rfl) :
    PE X (.Call (.Name x p) (e :: es) [] pos) (tF Y (lCB h fa)) := pe_imp (pe_callTy hc hg hm hv ha hn hdb he hpl) (t_cbF hr)
end
section
variable {O : ObS}
theorem ArgR.one {W : Wd} {H : Hp} {ps : List PV} {xs : List V} (h : ArgR O W H [true] ps xs) : ∃ p x, ps = [p] ∧ xs = [x] ∧ RepB O W H p x := by
  obtain ⟨p, pr, v, vr, e1, e2, h1, e3, e4⟩ := h
  subst e3; subst e4
  exact ⟨p, v, e1, e2, h1⟩
theorem ArgR.two {W : Wd} {H : Hp} {ps : List PV} {xs : List V} (h : ArgR O W H [true, true] ps xs) : ∃ p q x y, ps = [p, q] ∧ xs = [x, y] ∧ RepB O W H p x ∧ RepB O W H q y := by
  obtain ⟨p, pr, v, vr, e1, e2, h1, h2⟩ := h
  obtain ⟨q, y, e3, e4, h3⟩ := h2.one
  subst e3; subst e4
  exact ⟨p, q, v, y, e1, e2, h1, h3⟩
theorem crs_len {X : Cx} (hK : O.K = X.K) : CRS O (fun xs H Q => ∃ x n, xs = [x] ∧ LenV X.K x H n ∧ Q (.int n) H) [true] (on1 pLen) := by
  intro W H ps xs z Q h0 ha hz k
  obtain ⟨p, x, e1, e2, r⟩ := ha.one
  subst e1; subst e2
  have hz : pLen p = some z := hz
  cases p with
  | str s =>
    dsimp only [pLen] at hz
    by_cases c : s.length ≤ 1000000
    · rw [if_pos c] at hz
      cases hz
      rw [r.str.1]
      exact ⟨_, s.length, rfl, ⟨by rw [tx_len]; exact size_of c, by rw [tx_len]⟩, k W H _ (Stp.refl h0) (Rep.int_iff.mpr rfl)⟩
    · rw [if_neg c] at hz; cases hz
  | lst l =>
    cases hz
    obtain ⟨a, vs, e, h, rl⟩ := r.lst h0
    rw [e]
    exact ⟨_, l.length, rfl, .inl ⟨vs, SqL.of h, rl.len⟩, k W H _ (Stp.refl h0) (Rep.int_iff.mpr rfl)⟩
  | scr l =>
    cases hz
    obtain ⟨a, vs, e, h, rl⟩ := r.scr
    rw [e]
    exact ⟨_, l.length, rfl, .inl ⟨vs, by rw [← hK]; exact h.sq h0, rl.len⟩, k W H _ (Stp.refl h0) (Rep.int_iff.mpr rfl)⟩
  | tup l =>
    cases hz
    obtain ⟨a, vs, e, h, rl⟩ := r.tup
    rw [e]
    exact ⟨_, l.length, rfl, .inr ⟨vs, SqT.of (h.sq h0), rl.len⟩, k W H _ (Stp.refl h0) (Rep.int_iff.mpr rfl)⟩
  | _ => cases hz
theorem crs_max2 : CRS O (fun xs H Q => ∃ i j, xs = [.int i, .int j] ∧ Q (.int (if j > i then j else i)) H) [true, true] (on2 pMax2) := by
  intro W H ps xs z Q h0 ha hz k
  obtain ⟨p, q, x, y, e1, e2, r1, r2⟩ := ha.two
  subst e1; subst e2
  cases p with
  | int i =>
    cases q with
    | int j =>
      cases hz
      rw [r1.int, r2.int]
      exact ⟨i, j, rfl, k W H _ (Stp.refl h0) (Rep.int_iff.mpr rfl)⟩
    | _ => cases hz
  | _ => cases q <;> cases hz
theorem crs_min2 : CRS O (fun xs H Q => ∃ i j, xs = [.int i, .int j] ∧ Q (.int (if j < i then j else i)) H) [true, true] (on2 pMin2) := by
  intro W H ps xs z Q h0 ha hz k
  obtain ⟨p, q, x, y, e1, e2, r1, r2⟩ := ha.two
  subst e1; subst e2
  cases p with
  | int i =>
    cases q with
    | int j =>
      cases hz
      rw [r1.int, r2.int]
      exact ⟨i, j, rfl, k W H _ (Stp.refl h0) (Rep.int_iff.mpr rfl)⟩
    | _ => cases hz
  | _ => cases q <;> cases hz
end
/-! ### list(text) -/
theorem vals_of_get : ∀ {xs : List V} {us : List Value}, xs.length = us.length → (∀ (i : Nat) x u, xs[i]? = some x → us[i]? = some u → RelV x u) → Vals xs us
  | [], [], _, _ => .nil
  | [], _ :: _, h, _ => by simp at h
  | _ :: _, [], h, _ => by simp at h
  | x :: xs, u :: us, h, k => .cons (k 0 x u rfl rfl) (vals_of_get (by simpa using h) fun i y w e1 e2 => k (i + 1) y w (by simpa using e1) (by simpa using e2))
theorem call_listS {X : Cx} (hc : X.calm = true) : CallR X (.type "list") (fun xs H Q => ∃ z : Str, xs = [.str z] ∧ z.length ≤ sizeLine ∧ ∀ l, H l = none → Q (.ref l) (upd H l (.lst (z.cps.toList.map fun c => V.str ⟨#[c]⟩)))) := by
  intro pins s σ H xs us Q I r h
  obtain ⟨z, e, hz, q⟩ := h
  subst e
  obtain ⟨u, rfl, t, rfl⟩ := vals1 r
  refine PySem.call_list_str (I.ok.hd hc) z t (fun h' tk acc c' hk hS hi => ?_) hz
  have hv : Vals (z.cps.toList.map fun c => V.str ⟨#[c]⟩) acc.toList := by
    refine vals_of_get (by simp [hi.1]) fun i x w e1 e2 => ?_
    obtain ⟨c, t', e3, e4⟩ := hi.2 i w (by simpa using e2)
    rw [List.getElem?_map] at e1
    have e5 : z.cps.toList[i]? = some c := by simpa using e3
    rw [e5] at e1
    cases e1
    exact ⟨t', e4⟩
  have ob : ObjOk X.prog X.w (upd H s.heap.objs.size (.lst (z.cps.toList.map fun c => V.str ⟨#[c]⟩))) h' s.heap.objs.size (.lst (z.cps.toList.map fun c => V.str ⟨#[c]⟩)) :=
    ⟨by simpa [Str.length] using hz, acc.toList, c', hv, by simpa using hS⟩
  exact ⟨.ref s.heap.objs.size, _, I.laid (t' := tk) hk (Nat.le_refl _) ob, rfl, q _ (I.hok.fresh (Nat.le_refl _))⟩
section
variable {O : ObS}
theorem crf_list {X : Cx} (hK : O.K = X.K) (hc : X.calm = true) : ∃ r, CallR X (.type "list") r ∧ CRF O r [true] (on1 lOf) := by
  refine ⟨fun xs H Q => (∃ p ys, xs = [.ref p] ∧ (SqL X.K H p ys ∨ SqT X.K H p ys) ∧ ∀ l, H l = none → Q (.ref l) (upd H l (.lst ys))) ∨ (∃ z : Str, xs = [.str z] ∧ z.length ≤ sizeLine ∧ ∀ l, H l = none → Q (.ref l) (upd H l (.lst (z.cps.toList.map fun c => V.str ⟨#[c]⟩)))), ?_, ?_⟩
  · intro pins s σ H xs us Q I r h
    rcases h with h | h
    · exact call_list_of pins s σ H xs us Q I r h
    · exact call_listS hc pins s σ H xs us Q I r h
  · intro W H ps xs z Q h0 ha hz k
    obtain ⟨p, x, e1, e2, r⟩ := ha.one
    subst e1; subst e2
    have hz : lOf p = some z := hz
    cases p with
    | lst l =>
      cases hz
      obtain ⟨a, vs, e, h, rl⟩ := r.lst h0
      rw [e]
      exact .inl ⟨a, vs, rfl, .inl (SqL.of h), fun q hq => k W _ q vs (Stp.new0 h0 hq) hq (h0.none hq) upd_same rl⟩
    | tup l =>
      cases hz
      obtain ⟨a, vs, e, h, rl⟩ := r.tup
      rw [e]
      exact .inl ⟨a, vs, rfl, .inr (SqT.of (h.sq h0)), fun q hq => k W _ q vs (Stp.new0 h0 hq) hq (h0.none hq) upd_same rl⟩
    | scr l =>
      cases hz
      obtain ⟨a, vs, e, h, rl⟩ := r.scr
      rw [e]
      exact .inl ⟨a, vs, rfl, .inl (by rw [← hK]; exact h.sq h0), fun q hq => k W _ q vs (Stp.new0 h0 hq) hq (h0.none hq) upd_same rl⟩
    | str s =>
      dsimp only [lOf] at hz
      by_cases c : s.length ≤ 1000000
      · rw [if_pos c] at hz
        cases hz
        obtain ⟨e3, o3⟩ := r.str
        rw [e3]
        refine .inr ⟨tx s, rfl, by rw [tx_len]; exact size_of c, fun q hq => k W _ q _ (Stp.new0 h0 hq) hq (h0.none hq) upd_same ?_⟩
        show RepL O W (s.map fun c => PV.str [c]) (s.toArray.toList.map fun c => V.str ⟨#[c]⟩)
        have key : ∀ t : List Nat, okS t → RepL O W (t.map fun c => PV.str [c]) (t.map fun c => V.str ⟨#[c]⟩) := by
          intro t
          induction t with
          | nil => exact fun _ => RepL.nil
          | cons c t ih => exact fun o => RepL.cons (Rep.str_iff.mpr ⟨rfl, fun d hd => by simp at hd; subst hd; exact o _ List.mem_cons_self⟩) (ih fun d hd => o d (List.mem_cons_of_mem _ hd))
        simpa using key s o3
      · rw [if_neg c] at hz; cases hz
    | _ => cases hz
/-! ### isinstance -/
theorem kit_all : ∀ n ∈ ["NoneType", "bool", "int", "str", "list", "tuple", "dict"], ∀ c ∈ ["int", "bool", "str", "list", "tuple", "dict"], kitB n c = some (isTyN c n) := by decide +kernel
theorem RepB.ty {W : Wd} {H : Hp} {p : PV} {x : V} (h0 : Hold W H) (r : RepB O W H p x) (t : tyP p = true) : TyX O.K H x (.type (tyN p)) ∧ tyN p ∈ ["NoneType", "bool", "int", "str", "list", "tuple", "dict"] := by
  cases p with
  | non => rw [r.non]; exact ⟨.base .non, by simp [tyN]⟩
  | bl b => rw [r.bl]; exact ⟨.base (.bl b), by simp [tyN]⟩
  | int i => rw [r.int]; exact ⟨.base (.int i), by simp [tyN]⟩
  | str s => rw [r.str.1]; exact ⟨.base (.str _), by simp [tyN]⟩
  | lst l =>
    obtain ⟨a, vs, e, h, rl⟩ := r.lst h0
    rw [e]
    exact ⟨.base (.lst h), by simp [tyN]⟩
  | tup l =>
    obtain ⟨a, vs, e, h, rl⟩ := r.tup
    rw [e]
    exact ⟨.base (.tup (h.sq h0)), by simp [tyN]⟩
  | dct l =>
    have r' := r.val fun _ z => by cases z
    simp only [Rep] at r'
    obtain ⟨a, e, n, f, w, k⟩ := r'
    obtain ⟨o, q1, q2⟩ := h0 a f w
    rw [k o q2] at q1
    rw [e]
    exact ⟨.base (.dK q1), by simp [tyN]⟩
  | ob _ _ => cases t
  | scr _ => cases t
end
section
variable {X : Cx} {Y : Cy} {a b : Expr} {f : EX} {pos p pb : Pos}
theorem ge_isi (t : String) {xt : Str} (hK : Y.O.K = X.K) (hg : Gl X "isinstance") (hm : X.mg "isinstance" = none) (hgT : Gl X xt) (hmT : X.mg xt = none) (hvT : bootBuiltins xt = some (.type t)) (ha : PE X a (tB Y f)) (ht : t ∈ ["int", "bool", "str", "list", "tuple", "dict"] := by decide)
    (hn : xt ≠ "__name__" := by decide) (hd : (xt == ("__debug__" : Str)) = false := by decide) (he : starEach [a, .Name xt pb] X.env = (false, eval a X.env) :: starEach [.Name xt pb] X.env := by rfl) (hpl : (backTo pos (starEach [.Name xt pb] X.env)).any (·.1) = false := by rfl) :
    PE X (.Call (.Name "isinstance" p) [a, .Name xt pb] [] pos) (tP Y (eUn (pIsi t) f)) := by
  refine pe_imp (pe_callB call_isi hg hm (by decide +kernel) (pa_cons ha (pa_cons (pe_bltn hgT hmT hvT (show RelV (.ty t) (.type t) from rfl) hn hd) pa_nil (by rfl)) he) (by decide) (by decide) he hpl) fun σ H Q ⟨W, env, E, r⟩ => ⟨W, env, E, (RP.bind E.ho r).mono fun W1 H1 q s1 k1 x rx => ?_⟩
  have E1 := E.step s1
  obtain ⟨z, hz, kz⟩ := RP.ofO k1
  unfold pIsi at hz
  by_cases c : tyP q = true
  · rw [if_pos c] at hz
    cases hz
    obtain ⟨ty, hk⟩ := rx.ty E1.ho c
    refine ⟨x, .ty t, .type (tyN q), .type t, isTy t q, rfl, .ty t, by rw [← hK]; exact ty, kit_ty (kit_all _ hk t ht), kz W1 H1 (Stp.refl E1.ho) _ (Rep.bl_iff.mpr rfl)⟩
  · rw [if_neg c] at hz; cases hz
end
end JP

set_option Elab.async false
set_option linter.all false
set_option maxRecDepth 100000
/-! JP6: calls of defs of the text, statements, loops. -/
namespace JP
open PySem L2
theorem RepL.rev {O : ObS} {W : Wd} : ∀ {ps : List PV} {vs : List V}, RepL O W ps vs → RepL O W ps.reverse vs.reverse
  | [], vs, h => by rw [h.of_nil]; exact RepL.nil
  | p :: ps, [], h => by simp only [RepL] at h; obtain ⟨_, _, e, _⟩ := h; cases e
  | p :: ps, v :: vs, h => by
    rw [List.reverse_cons, List.reverse_cons]
    exact (RepL.rev (RepL.cons_iff.mp h).2).app (RepL.cons (RepL.cons_iff.mp h).1 RepL.nil)
/-! ### promises -/
def RC {α : Type} (O : ObS) (W : Wd) (H : Hp) (r : R α) (k : Wd → Hp → α → Prop) (E : XK) : Prop :=
  match r with
  | .ok a => ∀ W' H', Stp W H W' H' → k W' H' a
  | .ex e => ∀ W' H' cls d, Stp W H W' H' → ExR O W' cls d e → E cls d H'
  | .bad => False
def spP (O : ObS) (md : List Bool) (m : List PV → R PV) : Sp := fun vs H Q E => ∃ W ps, Hold W H ∧ ArgR O W H md ps vs ∧ RC O W H (m ps) (fun W' H' p => ∀ x, Rep O W' p x → Q x H') E
def spF (O : ObS) (md : List Bool) (m : List PV → R (List PV)) : Sp := fun vs H Q E => ∃ W ps, Hold W H ∧ ArgR O W H md ps vs ∧ RC O W H (m ps) (fun W' H' qs => ∀ a vs, H a = none → W' a = none → H' a = some (.lst vs) → RepL O W' qs vs → Q (.ref a) H') E
theorem spP.len {O : ObS} {md : List Bool} {m : List PV → R PV} {vs : List V} {H : Hp} {Q : VK} {E : XK} (h : spP O md m vs H Q E) : vs.length = md.length := by
  obtain ⟨W, ps, _, h, _⟩ := h
  exact h.len.1
theorem spF.len {O : ObS} {md : List Bool} {m : List PV → R (List PV)} {vs : List V} {H : Hp} {Q : VK} {E : XK} (h : spF O md m vs H Q E) : vs.length = md.length := by
  obtain ⟨W, ps, _, h, _⟩ := h
  exact h.len.1
/-- the def of that name keeps its promise, at level k -/
def GFn (P : Program) (w : World) (K : PySem.W.Frag) (mg : Str → Option Value) (base : Heap) (x : Str) (k : Nat) (sp : Sp) : Prop :=
  ∃ (f : Addr) (fd : FuncData) (ps : List Str), FnOk P w K mg base (L2.CX P w) k f fd ps sp ∧ mg x = some (.ref f) ∧ PySem.W.keepIn K (.ref f) = true ∧ Binds K fd ps []
/-- the method m of the class at C -/
def GMt (P : Program) (w : World) (K : PySem.W.Frag) (mg : Str → Option Value) (base : Heap) (C : Addr) (m : Str) (k : Nat) (sp : Sp) : Prop :=
  ∃ (f : Addr) (fd : FuncData) (ps : List Str), FnOk P w K mg base (L2.CX P w) k f fd ps sp ∧ Meth K C m f ∧ Binds K fd ps []
section
variable {X : Cx} {Y : Cy} {e o : Expr} {es : List Expr} {f fo : EX} {fa : AX} {pos p apos : Pos} {md : List Bool} {x m : Str} {k : Nat}
theorem RP.call {α : Type} {σ : St} {W : Wd} {H : Hp} {r : R α} {q : Wd → Hp → α → Prop} (h : RP Y σ W H r q) : RC Y.O W H r q (WE Y.Wx σ) := by
  cases r with
  | ok a => exact h
  | ex e => exact h
  | bad => exact h
theorem RC.mono {α : Type} {O : ObS} {W : Wd} {H : Hp} {r : R α} {q q' : Wd → Hp → α → Prop} {E : XK} (h : RC O W H r q E) (i : ∀ W' H' a, Stp W H W' H' → q W' H' a → q' W' H' a) : RC O W H r q' E := by
  cases r with
  | ok a => exact fun W' H' t => i W' H' a t (h W' H' t)
  | ex e => exact h
  | bad => exact h
theorem t_call {m : List PV → R PV} : ∀ σ H Q, tP Y (eCall m fa) σ H Q → tCallS (spP Y.O md m) (WE Y.Wx) (tAr Y md fa) σ H Q := by
  intro σ H Q ⟨W, env, E, r⟩
  exact ⟨W, env, E, (RP.bind E.ho r).mono fun W1 H1 ps s1 k1 xs rx => ⟨W1, ps, (E.step s1).ho, rx, k1.call⟩⟩
theorem t_callF {m : List PV → R (List PV)} : ∀ σ H Q, tF Y (lCall m fa) σ H Q → tCallS (spF Y.O md m) (WE Y.Wx) (tAr Y md fa) σ H Q := by
  intro σ H Q ⟨W, env, E, r⟩
  refine ⟨W, env, E, (RP.bind E.ho r).mono fun W1 H1 ps s1 k1 xs rx => ⟨W1, ps, (E.step s1).ho, rx, ?_⟩⟩
  exact k1.call.mono fun W' H' qs t h a vs n => h a vs (s1.back E.ho n)
theorem ge_call {m : List PV → R PV} (G : GFn X.prog X.w X.K X.mg X.base x k (spP Y.O md m)) (hr : Room k X.A) (tk : Takes X Y.Wx) (ha : PA X (e :: es) (tAr Y md fa)) (hg : Gl X x := by rfl) (hdb : (x == ("__debug__" : Str)) = false := by decide) (he : starEach (e :: es) X.env = (false, eval e X.env) :: starEach es X.env := by rfl) (hpl : (backTo pos (starEach es X.env)).any (·.1) = false := by rfl) :
    PE X (.Call (.Name x p) (e :: es) [] pos) (tP Y (eCall m fa)) := by
  obtain ⟨f, fd, ps, F, h1, h2, h3⟩ := G
  exact pe_imp (pe_callS F hr hg h1 h2 h3 (fun σ => passAt tk σ) ha hdb he hpl) t_call
theorem gf_call {m : List PV → R (List PV)} (G : GFn X.prog X.w X.K X.mg X.base x k (spF Y.O md m)) (hr : Room k X.A) (tk : Takes X Y.Wx) (ha : PA X (e :: es) (tAr Y md fa)) (hg : Gl X x := by rfl) (hdb : (x == ("__debug__" : Str)) = false := by decide) (he : starEach (e :: es) X.env = (false, eval e X.env) :: starEach es X.env := by rfl) (hpl : (backTo pos (starEach es X.env)).any (·.1) = false := by rfl) :
    PE X (.Call (.Name x p) (e :: es) [] pos) (tF Y (lCall m fa)) := by
  obtain ⟨f, fd, ps, F, h1, h2, h3⟩ := G
  exact pe_imp (pe_callS F hr hg h1 h2 h3 (fun σ => passAt tk σ) ha hdb he hpl) t_callF
/-! ### methods -/
def tMethT (C : Addr) (m : Str) (sp : Sp) (E : St → XK) (ta : TE) (t : TA) : TE := fun σ H Q => ta σ H fun x H1 => ∃ a dx fs, x = .ref a ∧ H1 a = some (.ins C dx fs) ∧ fs.lookup m = none ∧ t σ H1 fun vs H2 => sp (x :: vs) H2 Q (E σ)
theorem pe_methT {C f : Addr} {fd : FuncData} {ps : List Str} {sp : Sp} {CX : CXT} {E : St → XK} {ta : TE} {t : TA} {pl : Sem Bool} (he : PE X o ta) (c : Cls X.K C) (hm : Meth X.K C m f) (F : FnOk X.prog X.w X.K X.mg X.base CX k f fd ps sp) (hr : Room k X.A) (hb : Binds X.K fd ps []) (hx : ∀ σ, PassesAt CX X σ (E σ)) (ha : PA X (e :: es) t)
    (hst : starEach (e :: es) X.env = (false, eval e X.env) :: starEach es X.env := by rfl) (hpl : (backTo pos (starEach es X.env)).any (·.1) = false := by rfl)
    (ht : eval (.Call (.Attribute o m apos) (e :: es) [] pos) X.env = (do
      let ov ← eval o X.env
      standAt apos.atName
      let (f, first) ← holding [ov] (getMethod ov m pl)
      callWith pos f first (backTo pos (starEach (e :: es) X.env)) (backToKw pos (keywordEach [] X.env))) := by rfl) :
    PE X (.Call (.Attribute o m apos) (e :: es) [] pos) (tMethT C m sp E ta t) := by
  refine ⟨fun pins s σ H Q I h => ?_⟩
  refine PySem.W.methodCall_KW (pl := pl) (thn (he.run pins s σ H _ I h) fun u s1 ⟨x, H1, I1, rx, a, dx, fs, ex, ea, l, q⟩ => ?_) ht
  subst ex
  obtain rfl : u = Value.ref a := rx
  refine getmeth_ok I1 ea c hm l ?_
  refine PySem.W.callWith_K (first := [.ref a]) (h₀ := X.base) I.ok.mod.kin hm.kp (thn (ha.run pos pins s1 σ H1 _ I1 q) fun us s2 ⟨vs, H2, I2, r, q2⟩ => ⟨I2.kIn, ?_⟩) hst hpl
  exact run_fnS (us := .ref a :: us) (vs := .ref a :: vs) F hr hb (hx σ) I2 (.cons rfl r) q2
theorem pe_methT0 {C f : Addr} {fd : FuncData} {ps : List Str} {sp : Sp} {CX : CXT} {E : St → XK} {ta : TE} {pl : Sem Bool} (he : PE X o ta) (c : Cls X.K C) (hm : Meth X.K C m f) (F : FnOk X.prog X.w X.K X.mg X.base CX k f fd ps sp) (hr : Room k X.A) (hb : Binds X.K fd ps []) (hx : ∀ σ, PassesAt CX X σ (E σ))
    (ht : eval (.Call (.Attribute o m apos) [] [] pos) X.env = (do
      let ov ← eval o X.env
      standAt apos.atName
      let (f, first) ← holding [ov] (getMethod ov m pl)
      callWith pos f first (backTo pos (starEach [] X.env)) (backToKw pos (keywordEach [] X.env))) := by rfl) :
    PE X (.Call (.Attribute o m apos) [] [] pos) (tMethT C m sp E ta tNil) := by
  refine ⟨fun pins s σ H Q I h => ?_⟩
  refine PySem.W.methodCall_KW (pl := pl) (thn (he.run pins s σ H _ I h) fun u s1 ⟨x, H1, I1, rx, a, dx, fs, ex, ea, l, q⟩ => ?_) ht
  subst ex
  obtain rfl : u = Value.ref a := rx
  refine getmeth_ok I1 ea c hm l ?_
  exact PySem.W.callWith_K0 (first := [.ref a]) I1.kIn hm.kp (run_fnS (us := [.ref a]) (vs := [.ref a]) F hr hb (hx σ) I1 (.cons rfl .nil) q)
/-- an object of the kind kd is an instance of the class at C without a field m -/
def ObI (O : ObS) (kd : Nat) (C : Addr) (m : Str) : Prop := ∀ (W : Wd) (H : Hp) (d : PV) (x : V), Hold W H → Rep O W (.ob kd d) x → ∃ a dx fs, x = .ref a ∧ H a = some (.ins C dx fs) ∧ fs.lookup m = none
theorem isOb_of {kd : Nat} {p : PV} (h : isOb kd p = true) : ∃ d, p = .ob kd d := by
  cases p with
  | ob k d => exact ⟨d, by rw [show k = kd by simpa [isOb] using h]⟩
  | _ => cases h
theorem t_meth {C : Addr} {kd : Nat} {mm : List PV → R PV} {t : TA} (ho : ObI Y.O kd C m) (ht : ∀ σ H Q, tAr Y md fa σ H Q → t σ H Q) : ∀ σ H Q, tP Y (eMeth kd mm fo fa) σ H Q → tMethT C m (spP Y.O (false :: md) mm) (WE Y.Wx) (tP Y fo) t σ H Q := by
  intro σ H Q ⟨W, env, E, r⟩
  refine ⟨W, env, E, (RP.bind E.ho r).mono fun W1 H1 q s1 k1 x rx => ?_⟩
  by_cases c : isOb kd q = true
  · rw [if_pos c] at k1
    obtain ⟨d, e⟩ := isOb_of c
    subst e
    have E1 := E.step s1
    obtain ⟨a, dx, fs, e1, e2, e3⟩ := ho W1 H1 d x E1.ho rx
    refine ⟨a, dx, fs, e1, e2, e3, ht σ H1 _ ⟨W1, env, E1, (RP.bind E1.ho k1).mono fun W2 H2 ps s2 k2 xs rxs => ?_⟩⟩
    exact ⟨W2, .ob kd d :: ps, (E1.step s2).ho, ⟨_, ps, x, xs, rfl, rfl, rx.mono s2.le, rxs⟩, k2.call⟩
  · rw [if_neg c] at k1
    exact False.elim k1
theorem t_methF {C : Addr} {kd : Nat} {mm : List PV → R (List PV)} {t : TA} (ho : ObI Y.O kd C m) (ht : ∀ σ H Q, tAr Y md fa σ H Q → t σ H Q) : ∀ σ H Q, tF Y (lMeth kd mm fo fa) σ H Q → tMethT C m (spF Y.O (false :: md) mm) (WE Y.Wx) (tP Y fo) t σ H Q := by
  intro σ H Q ⟨W, env, E, r⟩
  refine ⟨W, env, E, (RP.bind E.ho r).mono fun W1 H1 q s1 k1 x rx => ?_⟩
  by_cases c : isOb kd q = true
  · rw [if_pos c] at k1
    obtain ⟨d, e⟩ := isOb_of c
    subst e
    have E1 := E.step s1
    obtain ⟨a, dx, fs, e1, e2, e3⟩ := ho W1 H1 d x E1.ho rx
    refine ⟨a, dx, fs, e1, e2, e3, ht σ H1 _ ⟨W1, env, E1, (RP.bind E1.ho k1).mono fun W2 H2 ps s2 k2 xs rxs => ?_⟩⟩
    exact ⟨W2, .ob kd d :: ps, (E1.step s2).ho, ⟨_, ps, x, xs, rfl, rfl, rx.mono s2.le, rxs⟩, k2.call.mono fun W' H' qs t h a vs n => h a vs (s1.back E.ho (s2.back E1.ho n))⟩
  · rw [if_neg c] at k1
    exact False.elim k1
theorem ge_meth {C : Addr} (kd : Nat) {mm : List PV → R PV} {pl : Sem Bool} (c : Cls X.K C) (G : GMt X.prog X.w X.K X.mg X.base C m k (spP Y.O (false :: md) mm)) (hi : ObI Y.O kd C m) (hr : Room k X.A) (tk : Takes X Y.Wx) (ho : PE X o (tP Y fo)) (ha : PA X (e :: es) (tAr Y md fa)) (hst : starEach (e :: es) X.env = (false, eval e X.env) :: starEach es X.env := by rfl) (hpl : (backTo pos (starEach es X.env)).any (·.1) = false := by rfl)
    (ht : eval (.Call (.Attribute o m apos) (e :: es) [] pos) X.env = (do
      let ov ← eval o X.env
      standAt apos.atName
      let (f, first) ← holding [ov] (getMethod ov m pl)
      callWith pos f first (backTo pos (starEach (e :: es) X.env)) (backToKw pos (keywordEach [] X.env))) := by rfl) : PE X (.Call (.Attribute o m apos) (e :: es) [] pos) (tP Y (eMeth kd mm fo fa)) := by
  obtain ⟨f, fd, ps, F, h1, h2⟩ := G
  exact pe_imp (pe_methT ho c h1 F hr h2 (fun σ => passAt tk σ) ha hst hpl ht) (t_meth hi fun _ _ _ h => h)
theorem gf_meth {C : Addr} (kd : Nat) {mm : List PV → R (List PV)} {pl : Sem Bool} (c : Cls X.K C) (G : GMt X.prog X.w X.K X.mg X.base C m k (spF Y.O (false :: md) mm)) (hi : ObI Y.O kd C m) (hr : Room k X.A) (tk : Takes X Y.Wx) (ho : PE X o (tP Y fo)) (ha : PA X (e :: es) (tAr Y md fa)) (hst : starEach (e :: es) X.env = (false, eval e X.env) :: starEach es X.env := by rfl) (hpl : (backTo pos (starEach es X.env)).any (·.1) = false := by rfl)
    (ht : eval (.Call (.Attribute o m apos) (e :: es) [] pos) X.env = (do
      let ov ← eval o X.env
      standAt apos.atName
      let (f, first) ← holding [ov] (getMethod ov m pl)
      callWith pos f first (backTo pos (starEach (e :: es) X.env)) (backToKw pos (keywordEach [] X.env))) := by rfl) : PE X (.Call (.Attribute o m apos) (e :: es) [] pos) (tF Y (lMeth kd mm fo fa)) := by
  obtain ⟨f, fd, ps, F, h1, h2⟩ := G
  exact pe_imp (pe_methT ho c h1 F hr h2 (fun σ => passAt tk σ) ha hst hpl ht) (t_methF hi fun _ _ _ h => h)
theorem t_nil : ∀ σ H Q, tAr Y [] aNil σ H Q → tNil σ H Q := fun σ H Q ⟨W, env, E, r⟩ => r.now E.ho [] ⟨rfl, rfl⟩
theorem ge_meth0 {C : Addr} (kd : Nat) {mm : List PV → R PV} {pl : Sem Bool} (c : Cls X.K C) (G : GMt X.prog X.w X.K X.mg X.base C m k (spP Y.O [false] mm)) (hi : ObI Y.O kd C m) (hr : Room k X.A) (tk : Takes X Y.Wx) (ho : PE X o (tP Y fo))
    (ht : eval (.Call (.Attribute o m apos) [] [] pos) X.env = (do
      let ov ← eval o X.env
      standAt apos.atName
      let (f, first) ← holding [ov] (getMethod ov m pl)
      callWith pos f first (backTo pos (starEach [] X.env)) (backToKw pos (keywordEach [] X.env))) := by rfl) : PE X (.Call (.Attribute o m apos) [] [] pos) (tP Y (eMeth kd mm fo aNil)) := by
  obtain ⟨f, fd, ps, F, h1, h2⟩ := G
  exact pe_imp (pe_methT0 ho c h1 F hr h2 (fun σ => passAt tk σ) ht) (t_meth hi t_nil)
theorem gf_meth0 {C : Addr} (kd : Nat) {mm : List PV → R (List PV)} {pl : Sem Bool} (c : Cls X.K C) (G : GMt X.prog X.w X.K X.mg X.base C m k (spF Y.O [false] mm)) (hi : ObI Y.O kd C m) (hr : Room k X.A) (tk : Takes X Y.Wx) (ho : PE X o (tP Y fo))
    (ht : eval (.Call (.Attribute o m apos) [] [] pos) X.env = (do
      let ov ← eval o X.env
      standAt apos.atName
      let (f, first) ← holding [ov] (getMethod ov m pl)
      callWith pos f first (backTo pos (starEach [] X.env)) (backToKw pos (keywordEach [] X.env))) := by rfl) : PE X (.Call (.Attribute o m apos) [] [] pos) (tF Y (lMeth kd mm fo aNil)) := by
  obtain ⟨f, fd, ps, F, h1, h2⟩ := G
  exact pe_imp (pe_methT0 ho c h1 F hr h2 (fun σ => passAt tk σ) ht) (t_methF hi t_nil)
end
/-! ### statements -/
section
variable {X : Cx} {Y : Cy} {st : Stmt} {rest : List Stmt} {g h : SX} {f : EX} {fa : AX} {e : Expr} {pos pos' : Pos} {i : Nat} {x : Str}
/-- what is wanted of an end -/
def OP (Y : Cy) (D : Ends) (W : Wd) (o : Ou) : Prop :=
  match o with
  | .nx e => ∀ W' H' σ', Wle W W' → EnvR Y W' H' σ' e → D.nx σ' H'
  | .bk e => ∀ W' H' σ', Wle W W' → EnvR Y W' H' σ' e → D.bk σ' H'
  | .ct e => ∀ W' H' σ', Wle W W' → EnvR Y W' H' σ' e → D.ct σ' H'
  | .rt p => ∀ W' H' x, Stp Y.W0 Y.H0 W' H' → Rep Y.O W' p x → D.rt x H'
  | .rf ps => ∀ W' H' a vs, Stp Y.W0 Y.H0 W' H' → Y.H0 a = none → W' a = none → H' a = some (.lst vs) → RepL Y.O W' ps vs → D.rt (.ref a) H'
  | .ex x e => ∀ W' H' σ' cls d, Wle W W' → EnvR Y W' H' σ' e → ExR Y.O W' cls d x → Y.Wx cls d σ' H'
  | .bad => False
theorem tS_iff {D : Ends} {σ : St} {H : Hp} : tS Y g D σ H ↔ ∃ W env, EnvR Y W H σ env ∧ OP Y D W (g env) := Iff.rfl
theorem OP.up {D : Ends} {W W1 : Wd} {o : Ou} (w : Wle W W1) (q : OP Y D W o) : OP Y D W1 o := by
  cases o with
  | nx e => exact fun W' H' σ' l => q W' H' σ' (w.trans l)
  | bk e => exact fun W' H' σ' l => q W' H' σ' (w.trans l)
  | ct e => exact fun W' H' σ' l => q W' H' σ' (w.trans l)
  | rt p => exact q
  | rf p => exact q
  | ex x e => exact fun W' H' σ' cls d l => q W' H' σ' cls d (w.trans l)
  | bad => exact q
/-- an expression's answer, then an end -/
theorem OP.rp {α : Type} {D : Ends} {W : Wd} {H : Hp} {σ : St} {env : Ev} {r : R α} {n : α → Ou} {k : Wd → Hp → α → Prop} (E : EnvR Y W H σ env) (q : OP Y D W (thenO r env n)) (hk : ∀ a, r = .ok a → OP Y D W (n a) → ∀ W' H', Stp W H W' H' → k W' H' a) : RP Y σ W H r k := by
  cases r with
  | ok a => exact hk a rfl q
  | ex x => exact fun W' H' cls d t z => q W' H' σ cls d t.le (E.step t) z
  | bad => exact q
theorem gs_cons (h1 : PS X st (tS Y g)) (h2 : PSs X rest (tS Y h)) : PSs X (st :: rest) (tS Y (sSeq g h)) := by
  refine pss_imp (pss_cons h1 h2) fun D σ H ⟨W, env, E, q⟩ => ⟨W, env, E, ?_⟩
  have q : OP Y D W (sSeq g h env) := q
  show OP Y { D with nx := tS Y h D } W (g env)
  unfold sSeq at q
  cases e : g env with
  | nx e' =>
    rw [e] at q
    exact fun W' H' σ' l E' => ⟨W', e', E', q.up l⟩
  | bk e' => rw [e] at q; exact q
  | ct e' => rw [e] at q; exact q
  | rt p => rw [e] at q; exact q
  | rf p => rw [e] at q; exact q
  | ex x e' => rw [e] at q; exact q
  | bad => rw [e] at q; exact q
theorem gs_one (h1 : PS X st (tS Y g)) : PSs X [st] (tS Y g) := pss_one h1
theorem gs_nil : PSs X [] (tS Y sNil) := pss_imp pss_nil fun D σ H ⟨W, env, E, q⟩ => q W H σ (Wle.refl W) E
theorem gs_pass : PS X (.Pass pos) (tS Y sNil) := ps_imp ps_pass fun D σ H ⟨W, env, E, q⟩ => q W H σ (Wle.refl W) E
theorem gs_brk : PS X (.Break pos) (tS Y sBrk) := ps_imp ps_break fun D σ H ⟨W, env, E, q⟩ => q W H σ (Wle.refl W) E
theorem gs_cnt : PS X (.Continue pos) (tS Y sCnt) := ps_imp ps_continue fun D σ H ⟨W, env, E, q⟩ => q W H σ (Wle.refl W) E
theorem gs_asg (i : Nat) (hN : X.N.Nodup) (he : PE X e (tP Y f)) (hi : X.N[i]? = some x := by rfl) (hx : Loc X.env.scope x := by first | exact Or.inl rfl | exact Or.inr rfl) (hs : swapsWith e (some (.Name x pos')) pos.line X.env = pure false := by rfl) (hf : X.fn x = true ∨ X.env.scope.names.lookup x = some .local := by first | exact .inl rfl | exact .inr rfl | assumption) :
    PS X (.Assign [.Name x pos'] e pos) (tS Y (sAsg i f)) := by
  refine ps_imp (ps_set hN hi hx he hs hf) fun D σ H ⟨W, env, E, q⟩ => ⟨W, env, E, ?_⟩
  have q : OP Y D W (sAsg i f env) := q
  refine OP.rp E q fun p _ q W' H' t x rx => ?_
  exact q W' H' _ t.le ((E.step t).setv rx)
theorem gs_own (i : Nat) (hN : X.N.Nodup) (he : PE X e (tF Y fa)) (hi : X.N[i]? = some x := by rfl) (hx : Loc X.env.scope x := by first | exact Or.inl rfl | exact Or.inr rfl) (hs : swapsWith e (some (.Name x pos')) pos.line X.env = pure false := by rfl) (hf : X.fn x = true ∨ X.env.scope.names.lookup x = some .local := by first | exact .inl rfl | exact .inr rfl | assumption) :
    PS X (.Assign [.Name x pos'] e pos) (tS Y (sOwn i fa)) := by
  refine ps_imp (ps_set hN hi hx he hs hf) fun D σ H ⟨W, env, E, q⟩ => ⟨W, env, E, ?_⟩
  have q : OP Y D W (sOwn i fa env) := q
  refine OP.rp E q fun p _ q W' H' t a vs n nw ha rl => ?_
  refine q W' H' _ t.le ((E.step t).seto (fun j s x _ e1 e2 z => ?_) ha nw (E.st.back Y.h0 n) rl)
  obtain ⟨ps, vs', z1, z2, z3, _⟩ := z.own_at
  obtain ⟨x', b', e3, z4⟩ := E.slot e1
  rw [e2] at e3
  cases e3
  rw [z1] at z4
  obtain ⟨a', vs'', _, c2, c3, _⟩ := z4
  rw [z2] at c2
  cases c2
  rw [n] at c3
  cases c3
theorem gs_ret (he : PE X e (tP Y f)) : PS X (.Return (some e) pos) (tS Y (sRet f)) := by
  refine ps_imp (ps_ret he) fun D σ H ⟨W, env, E, q⟩ => ⟨W, env, E, ?_⟩
  have q : OP Y D W (sRet f env) := q
  exact OP.rp E q fun p _ q W' H' t x rx => q W' H' x (E.step t).st rx
theorem gs_retF (he : PE X e (tF Y fa)) : PS X (.Return (some e) pos) (tS Y (sRetF fa)) := by
  refine ps_imp (ps_ret he) fun D σ H ⟨W, env, E, q⟩ => ⟨W, env, E, ?_⟩
  have q : OP Y D W (sRetF fa env) := q
  exact OP.rp E q fun p _ q W' H' t a vs n nw ha rl => q W' H' a vs (E.step t).st (E.st.back Y.h0 n) nw ha rl
theorem gs_retO (i : Nat) (hN : X.N[i]? = some x := by rfl) (hv : Vis X.env.scope x := by first | exact Or.inl rfl | exact Or.inr (Or.inl rfl) | exact Or.inr (Or.inr rfl)) (hd : (x == ("__debug__" : Str)) = false := by decide) (hcd : (x == ("__classdict__" : Str)) = false := by decide) : PS X (.Return (some (.Name x pos')) pos) (tS Y (sRetO i)) := by
  refine ps_imp (ps_ret (pe_var hN hv hd hcd)) fun D σ H ⟨W, env, E, q⟩ => ?_
  have q : OP Y D W (sRetO i env) := q
  unfold sRetO at q
  cases e : env[i]? with
  | none => rw [e] at q; exact False.elim q
  | some s =>
    rw [e] at q
    cases s with
    | o ps =>
      obtain ⟨y, b, e1, a, vs, _, e2, e3, e4, e5, e6⟩ := E.slot e
      exact ⟨.ref a, by rw [e1, e2], q W H a vs E.st e5 e4 e3 e6⟩
    | _ => exact False.elim q
theorem gs_exp (he : PE X e (tP Y f)) (hs : swapsWith e none pos.line X.env = pure false := by rfl) : PS X (.Expr e pos) (tS Y (sExp f)) := by
  refine ps_imp (ps_expr he hs) fun D σ H ⟨W, env, E, q⟩ => ⟨W, env, E, ?_⟩
  have q : OP Y D W (sExp f env) := q
  exact OP.rp E q fun p _ q W' H' t x rx => q W' H' σ t.le (E.step t)
theorem gs_if {c : Expr} {a b : List Stmt} (hc : PT X c (tT Y f)) (ha : PSs X a (tS Y g)) (hb : PSs X b (tS Y h)) : PS X (.If c a b pos) (tS Y (sIf f g h)) := by
  refine ps_imp (ps_if hc ha hb) fun D σ H ⟨W, env, E, q⟩ => ⟨W, env, E, ?_⟩
  have q : OP Y D W (sIf f g h env) := q
  refine OP.rp E q fun p _ q W' H' t => ?_
  cases p with
  | bl d =>
    cases d with
    | true => exact ⟨true, rfl, ⟨W', env, E.step t, q.up t.le⟩⟩
    | false => exact ⟨false, rfl, ⟨W', env, E.step t, q.up t.le⟩⟩
  | _ => exact False.elim q
theorem gs_frz (i : Nat) (h1 : PS X st (tS Y g)) : PS X st (tS Y (sFrz i g)) := by
  refine ps_imp h1 fun D σ H ⟨W, env, E, q⟩ => ?_
  obtain ⟨W', l, E'⟩ := E.frz i
  have q : OP Y D W (g (frz i env)) := q
  exact ⟨W', _, E', q.up l⟩
/-- the name in slot i: .append(e) -/
theorem gs_app (i : Nat) (he : PE X e (tBM X.K "list" rAppend (tVar i) (tCons (tP Y f) tNil))) (hs : swapsWith e none pos.line X.env = pure false := by rfl) : PS X (.Expr e pos) (tS Y (sApp i f)) := by
  refine ps_imp (ps_expr he hs) fun D σ H ⟨W, env, E, q⟩ => ?_
  have q : OP Y D W (sApp i f env) := q
  unfold sApp at q
  cases e : env[i]? with
  | none => rw [e] at q; exact False.elim q
  | some s =>
    rw [e] at q
    cases s with
    | o xs =>
      obtain ⟨y, b, e1, a, vs, _, e2, e3, e4, e5, e6⟩ := E.slot e
      refine ⟨.ref a, by rw [e1, e2], .inl ⟨rfl, vs, SqL.of e3⟩, W, env, E, ?_⟩
      refine OP.rp E q fun p _ q W' H' t x rx => ?_
      by_cases c : xs.length < 1000000
      · rw [if_pos c] at q
        obtain ⟨a', vs', c1, c2, c3, c4, c5⟩ := (E.step t).mut e
        rw [e1, e2] at c1
        cases c1
        refine ⟨a, vs', x, rfl, rfl, c2, by rw [← c4.len]; exact size_lt c, ?_⟩
        exact q W' _ σ t.le (c5 (xs ++ [p]) (vs' ++ [x]) (c4.app (RepL.cons rx RepL.nil)))
      · rw [if_neg c] at q; exact False.elim q
    | _ => exact False.elim q
theorem gs_rev (i : Nat) (he : PE X e (tBM0 X.K "list" rReverse (tVar i))) (hs : swapsWith e none pos.line X.env = pure false := by rfl) : PS X (.Expr e pos) (tS Y (sMut i List.reverse)) := by
  refine ps_imp (ps_expr he hs) fun D σ H ⟨W, env, E, q⟩ => ?_
  have q : OP Y D W (sMut i List.reverse env) := q
  unfold sMut at q
  cases e : env[i]? with
  | none => rw [e] at q; exact False.elim q
  | some s =>
    rw [e] at q
    cases s with
    | o xs =>
      obtain ⟨a, vs, c1, c2, c3, c4, c5⟩ := E.mut e
      refine ⟨.ref a, c1, .inl ⟨rfl, vs, SqL.of c2⟩, a, vs, rfl, rfl, c2, ?_⟩
      exact q W _ σ (Wle.refl W) (c5 xs.reverse vs.reverse (RepL.rev c4))
    | _ => exact False.elim q
theorem gs_clr (i : Nat) (he : PE X e (tBM0 X.K "list" rClear (tVar i))) (hs : swapsWith e none pos.line X.env = pure false := by rfl) : PS X (.Expr e pos) (tS Y (sMut i fun _ => [])) := by
  refine ps_imp (ps_expr he hs) fun D σ H ⟨W, env, E, q⟩ => ?_
  have q : OP Y D W (sMut i (fun _ => []) env) := q
  unfold sMut at q
  cases e : env[i]? with
  | none => rw [e] at q; exact False.elim q
  | some s =>
    rw [e] at q
    cases s with
    | o xs =>
      obtain ⟨a, vs, c1, c2, c3, c4, c5⟩ := E.mut e
      refine ⟨.ref a, c1, .inl ⟨rfl, vs, SqL.of c2⟩, a, vs, rfl, rfl, c2, ?_⟩
      exact q W _ σ (Wle.refl W) (c5 [] [] RepL.nil)
    | _ => exact False.elim q
/-! ### targets -/
def PGP (X : Cx) (Y : Cy) (tg : Expr) (b : BX) : Prop := ∃ g, PG X tg g ∧ ∀ (W : Wd) (H : Hp) (σ : St) (env e : Ev) (p : PV) (x : V) (Q : St → Hp → Prop), EnvR Y W H σ env → Rep Y.O W p x → b p env = .ok e → (∀ W' H' σ', Wle W W' → EnvR Y W' H' σ' e → Q σ' H') → g x σ H Q
theorem gg_name (i : Nat) {pos : Pos} (hN : X.N.Nodup) (hi : X.N[i]? = some x := by rfl) (hx : Loc X.env.scope x := by first | exact Or.inl rfl | exact Or.inr rfl) (hf : X.fn x = true ∨ X.env.scope.names.lookup x = some .local := by first | exact .inl rfl | exact .inr rfl | assumption) : PGP X Y (.Name x pos) (bName i) := by
  refine ⟨gName i, pg_name hN hi hx hf, fun W H σ env e p v Q E r hb k => ?_⟩
  cases hb
  exact k W H _ (Wle.refl W) (E.setv r)
theorem gg_two (i j : Nat) {y : Str} {pos p1 p2 : Pos} {kk : Nat} (hc : X.calm = true) (hN : X.N.Nodup) (hi : X.N[i]? = some x := by rfl) (hj : X.N[j]? = some y := by rfl) (hx : Loc X.env.scope x := by first | exact Or.inl rfl | exact Or.inr rfl) (hy : Loc X.env.scope y := by first | exact Or.inl rfl | exact Or.inr rfl)
    (hf : X.fn x = true ∨ X.env.scope.names.lookup x = some .local := by first | exact .inl rfl | exact .inr rfl | assumption) (hf2 : X.fn y = true ∨ X.env.scope.names.lookup y = some .local := by first | exact .inl rfl | exact .inr rfl | assumption)
    (hs1 : (assignEach [.Name x p1, .Name y p2] X.env).map (·.2) = assign (.Name x p1) X.env :: (assignEach [.Name y p2] X.env).map (·.2) := by rfl) (hs2 : (assignEach [.Name y p2] X.env).map (·.2) = assign (.Name y p2) X.env :: (assignEach [] X.env).map (·.2) := by rfl)
    (hn : (assignEach [.Name x p1, .Name y p2] X.env).length = 2 := by rfl) (hst : (assignEach [.Name x p1, .Name y p2] X.env).findIdx? (·.1) = none := by rfl) : PGP X Y (.Tuple [.Name x p1, .Name y p2] kk pos) (bTup2 i j) := by
  refine ⟨_, pg_tup hc (pgs_cons (pg_name hN hi hx hf) (pgs_cons (pg_name hN hj hy hf2) pgs_nil hs2) hs1) hn hst, fun W H σ env e p v Q E r hb k => ?_⟩
  cases p with
  | tup l =>
    match l, hb, r with
    | [p1, p2], hb, r =>
      cases hb
      obtain ⟨a, vs, e1, t, rl⟩ := Rep.tup_iff.mp r
      match vs, rl, t with
      | [v1, v2], rl, t =>
        obtain ⟨r1, r2⟩ := RepL.cons_iff.mp rl
        obtain ⟨r2, _⟩ := RepL.cons_iff.mp r2
        refine ⟨a, [v1, v2], e1, SqT.of (t.sq E.ho), rfl, v1, [v2], rfl, v2, [], rfl, rfl, ?_⟩
        exact k W H _ (Wle.refl W) ((E.setv r1).setv r2)
      | [], rl, _ => exact absurd rl.len (by simp)
      | [_], rl, _ => exact absurd rl.len (by simp)
      | _ :: _ :: _ :: _, rl, _ => exact absurd rl.len (by simp)
    | [], hb, _ => cases hb
    | [_], hb, _ => cases hb
    | _ :: _ :: _ :: _, hb, _ => cases hb
  | _ => cases hb
theorem gs_unp {tg : Expr} {b : BX} (he : PE X e (tP Y f)) (hg : PGP X Y tg b) (hs : swapsWithSole [tg] e pos.line X.env = pure false := by rfl) (hw : swappedStores [tg] e X.env = pure none := by rfl) (h1 : (assignEach [tg] X.env).map (·.2) = [assign tg X.env] := by rfl) : PS X (.Assign [tg] e pos) (tS Y (sUnp b f)) := by
  obtain ⟨g, hg, kg⟩ := hg
  refine ps_imp (ps_asg he hg hs hw h1) fun D σ H ⟨W, env, E, q⟩ => ⟨W, env, E, ?_⟩
  have q : OP Y D W (sUnp b f env) := q
  refine OP.rp E q fun p _ q W' H' t x rx => ?_
  cases hb : b p env with
  | ok e' =>
    rw [hb] at q
    exact kg W' H' σ env e' p x D.nx (E.step t) rx hb fun W2 H2 σ2 l E2 => q W2 H2 σ2 (t.le.trans l) E2
  | ex _ => rw [hb] at q; exact False.elim q
  | bad => rw [hb] at q; exact False.elim q
end
end JP

set_option Elab.async false
set_option linter.all false
set_option maxRecDepth 100000
/-! JP7: loops. -/
namespace JP
open PySem L2 PyProof.Rows
theorem pi_imp {X : Cx} {tg iter : Expr} {w w' : TI} (h : PI X tg iter w) (k : ∀ σ H R, w' σ H R → w σ H R) : PI X tg iter w' := ⟨fun pins s σ H R I q => h.run pins s σ H R I (k σ H R q)⟩
/-! ### enumerate(text) -/
def Itse (x : Str) : It := ⟨fun i _ => i < x.cps.size, fun i H v H' => ∃ T c, v = .ref T ∧ H T = none ∧ H' = upd H T (.tup [.int (i : Nat), .str ⟨#[c]⟩]) ∧ x.cps[i]? = some c, fun i _ => i = x.cps.size⟩
theorem draws_str {prog : Program} {w : World} {A : Around} (hh : A.handled = none) (it : Addr) (x : Str) (t : Tok) : Draws prog w A it [it] x.cps.size (fun i v => ∃ c u, x.cps[i]? = some c ∧ v = .str ⟨#[c]⟩ u) (fun i h => h.IsStrIter it (strIterType x) x t i) := by
  unfold strIterType
  cases ha : x.cps.all (· < 128)
  · exact Draws.strWide hh it x t
  · exact Draws.strAscii hh it x t
theorem turn_enumS {P : Program} {w : World} {K : PySem.W.Frag} {elts : List Expr} {kk : Nat} {tpos : Pos} (x : Str) (t : Tok) (e it : Addr) :
    Turn P w K (.Tuple elts kk tpos) (Itse x) [e, it] e (fun i h => (∃ old, IsEnum h e it ((i : Nat) : Int) old) ∧ h.IsStrIter it (strIterType x) x t i ∧ e ≠ it) where
  mem := by simp
  obj := fun i h st b hb => by
    obtain ⟨⟨old, he⟩, ⟨o, ho, hc, hd⟩, _⟩ := st
    have e' : b = e ∨ b = it := by simpa using hb
    rcases e' with z | z
    · rw [z]; exact ⟨_, he, fun v q => nomatch q⟩
    · rw [z]; exact ⟨o, ho, fun v q => by rw [hd] at q; cases q⟩
  keep := fun i h h' st k => let ⟨⟨old, he⟩, ⟨o, ho, r⟩, hne⟩ := st; ⟨⟨old, k e (by simp) _ he⟩, ⟨o, k it (by simp) o ho, r⟩, hne⟩
  item := by
    intro X hP hw hK hc i pins s σ H E I hf st hg
    subst hP hw hK
    obtain ⟨⟨old, he⟩, hit, hne⟩ := st
    have hel : e < s.heap.objs.size := Heap.lt_size he
    have hil : it < s.heap.objs.size := by obtain ⟨_, q, _⟩ := hit; exact Heap.lt_size q
    refine wpAny_pyNext_enum_itemD (draws_str (A := X.A.in1) (I.ok.hd hc) it x t) he hit hg hne (by simpa using hne) fun u h' tk hu ho hit' hT hsz hk => ?_
    obtain ⟨c, tu, hcx, hue⟩ := hu
    subst hue
    refine ⟨_, rfl, wpAny_letOwnedTupleGo_enum (s := { s with heap := h', toks := tk + 1 }) ho fun h'' he' sb => ?_⟩
    have hT2 : h''.get? s.heap.objs.size = some { cls := .type "tuple", data := .seq #[.int i tk, .str ⟨#[c]⟩ tu] } := (sb.2 _ (Nat.ne_of_gt hel)).trans hT
    have new : ObjOk X.prog X.w (upd H s.heap.objs.size (.tup [.int (i : Nat), .str ⟨#[c]⟩])) h'' s.heap.objs.size (.tup [.int (i : Nat), .str ⟨#[c]⟩]) :=
      ⟨by show 2 ≤ sizeLine; decide, [.int i tk, .str ⟨#[c]⟩ tu], .cons ⟨_, rfl⟩ (.cons ⟨_, rfl⟩ .nil), ⟨_, hT2, rfl, _, rfl⟩⟩
    have I1 : Inv X pins σ (upd H s.heap.objs.size (.tup [.int (i : Nat), .str ⟨#[c]⟩])) { s with heap := h'', toks := tk + 1 } :=
      I.turnedNew (ch := [e, it]) (fun b ob hb q => (sb.2 b (fun z => hb (by simp [z]))).trans (hk b ob (fun z => hb (by simp [z])) (fun z => hb (by simp [z])) q)) hf (Nat.le_refl _) new
    refine ⟨.ref s.heap.objs.size, _, I1, rfl, ⟨_, c, rfl, I.hok.fresh (Nat.le_refl _), rfl, hcx⟩, ⟨⟨.str ⟨#[c]⟩ tu, ?_⟩, ?_, hne⟩, fun b hb => ?_⟩
    · have e1 : ((i + 1 : Nat) : Int) = (i : Int) + 1 := by omega
      rw [e1]; exact he'
    · obtain ⟨o, ho', r⟩ := hit'
      exact ⟨o, (sb.2 it (Ne.symm hne)).trans ho', r⟩
    · have hb' : b < s.heap.objs.size := by
        have e' : b = e ∨ b = it := by simpa using hb
        rcases e' with z | z
        · rw [z]; exact hel
        · rw [z]; exact hil
      rw [upd_ne (Nat.ne_of_lt hb')]
      exact (hf b hb).1
  done := by
    intro X hP hw hK hc i pins s σ H E I hf st hg
    subst hP hw hK
    obtain ⟨⟨old, he⟩, hit, hne⟩ := st
    obtain ⟨f0, f1, f2, f3, f4, f5⟩ := hf it (by simp)
    have hg : i = x.cps.size := hg
    subst hg
    exact wpAny_pyNext_enum_endD (draws_str (A := X.A.in1) (I.ok.hd hc) it x t) he hit fun h' eb => ⟨rfl, I.turned (t' := s.toks) (fun b o hb q => eb b o hb q) f0 f1 f3 f4 f5⟩
  self := fun A i s Q E st h => let ⟨⟨_, he⟩, _⟩ := st; wpAny_pyIter_enum he h
def iEnumS (ta : TA) : TI := fun σ H R => ta σ H fun vs H1 => ∃ x : Str, vs = [.str x] ∧ R (Itse x) H1
theorem pi_enumS {X : Cx} {e : Expr} {ta : TA} {p pos tpos : Pos} {elts : List Expr} {kk : Nat} (hg : Gl X "enumerate") (hm : X.mg "enumerate" = none) (ha : PA X [e] ta) (hs : starEach [e] X.env = [(false, eval e X.env)] := by rfl) :
    PI X (.Tuple elts kk tpos) (.Call (.Name "enumerate" p) [e] [] pos) (iEnumS ta) := by
  refine ⟨fun pins s σ H R I h => ?_⟩
  refine Call_ (ld_blt I hg hm boot_enumerate (PyProof.Rows.callWith_type1 (thn (ha.run pos pins s σ H _ I h) fun us s1 ⟨vs, H1, I1, r1, q1⟩ => ?_) hs rfl))
  obtain ⟨x, ex, q⟩ := q1
  subst ex
  cases r1 with
  | cons r rr =>
    cases rr
    obtain ⟨t, rfl⟩ := r
    refine call_enumerate_str fun h' he hit hsz hk => wpAny_pyIter_enum he ?_
    have I2 : Inv X pins σ H1 { s1 with heap := h' } := I1.kept (t' := s1.toks) hk
    refine ⟨s1.heap.objs.size + 1, [s1.heap.objs.size + 1, s1.heap.objs.size], _, _, H1, rfl, I2, turn_enumS x t (s1.heap.objs.size + 1) s1.heap.objs.size, ⟨⟨.none, he⟩, hit, Nat.succ_ne_self _⟩, fun b hb => ?_, q⟩
    have e' : b = s1.heap.objs.size + 1 ∨ b = s1.heap.objs.size := by simpa using hb
    have hle : s1.heap.objs.size ≤ b := by
      rcases e' with z | z
      · rw [z]; exact Nat.le_add_right _ _
      · rw [z]; exact Nat.le_refl _
    exact I1.fpOk hle (I1.hok.fresh hle)

/-! ### what a walk gives, by plain data; S: the states in which it may be asked -/
structure WalkP (O : ObS) (S : Wd → Hp → Prop) (J : It) (ps : List PV) : Prop where
  go : ∀ (i : Nat) W H, i < ps.length → S W H → J.go i H
  stop : ∀ W H, S W H → J.stop ps.length H
  yld : ∀ (i : Nat) W H x H', i < ps.length → S W H → J.yld i H x H' → ∃ W' p, Stp W H W' H' ∧ ps[i]? = some p ∧ Rep O W' p x
def SL (Y : Cy) (W1 : Wd) : Wd → Hp → Prop := fun W2 H2 => Wle W1 W2 ∧ Stp Y.W0 Y.H0 W2 H2
def SC (W1 : Wd) (H1 : Hp) : Wd → Hp → Prop := fun W2 H2 => Stp W1 H1 W2 H2
def tIl (Y : Cy) (fa : AX) : TI := fun σ H R => ∃ W env, EnvR Y W H σ env ∧ RP Y σ W H (fa env) fun W1 H1 ps => ∀ J, WalkP Y.O (SL Y W1) J ps → R J H1
def tIc (Y : Cy) (fa : AX) : TI := fun σ H R => ∃ W env, EnvR Y W H σ env ∧ RP Y σ W H (fa env) fun W1 H1 ps => ∀ J, WalkP Y.O (SC W1 H1) J ps → R J H1
section
variable {O : ObS} {S : Wd → Hp → Prop}
theorem walkP_list {a : Addr} {ps : List PV} (h : ∀ W H, S W H → Hold W H ∧ ∃ vs, SqL O.K H a vs ∧ RepL O W ps vs) (hi : ∀ W H W' H' vs vs', S W H → S W' H' → SqL O.K H a vs → SqL O.K H' a vs' → True) : WalkP O S (Itl O.K a) ps := by
  refine ⟨fun i W H hi s => ?_, fun W H s => ?_, fun i W H x H' hi s y => ?_⟩
  · obtain ⟨_, vs, q, r⟩ := h W H s
    have hl := r.len
    exact ⟨vs, vs[i]'(by omega), q, List.getElem?_eq_getElem (by omega)⟩
  · obtain ⟨_, vs, q, r⟩ := h W H s
    exact ⟨vs, q, by rw [r.len]; exact Nat.le_refl _⟩
  · obtain ⟨h0, vs, q, r⟩ := h W H s
    obtain ⟨e, y⟩ := y
    subst e
    have e1 := y vs q
    obtain ⟨v, e2, rv⟩ := r.get (i := i) (p := ps[i]) (List.getElem?_eq_getElem hi)
    rw [e1] at e2
    cases e2
    exact ⟨W, ps[i], Stp.refl h0, List.getElem?_eq_getElem hi, rv⟩
theorem walkP_str {s : List Nat} (o : okS s) (h : ∀ W H, S W H → Hold W H) : WalkP O S (Its (tx s)) (s.map fun c => .str [c]) := by
  refine ⟨fun i W H hi _ => ?_, fun W H _ => ?_, fun i W H x H' hi q y => ?_⟩
  · show i < s.toArray.size
    simpa using hi
  · show s.toArray.size ≤ _
    simp
  · obtain ⟨e, c, e1, e2⟩ := y
    subst e; subst e2
    have e3 : s[i]? = some c := by
      have : s.toArray[i]? = some c := e1
      simpa using this
    exact ⟨W, .str [c], Stp.refl (h W _ q), by rw [List.getElem?_map, e3]; rfl, Rep.str_iff.mpr ⟨rfl, fun d hd => by simp at hd; subst hd; exact o _ (List.mem_of_getElem? e3)⟩⟩
theorem enumP_len : ∀ (n : Nat) (ps : List PV), (enumP n ps).length = ps.length
  | _, [] => rfl
  | n, p :: ps => by simp only [enumP, List.length_cons, enumP_len (n + 1) ps]
theorem enumP_get : ∀ (n : Nat) (ps : List PV) (i : Nat) (p : PV), ps[i]? = some p → (enumP n ps)[i]? = some (.tup [.int ((n + i : Nat) : Int), p])
  | _, [], _, _, h => by simp at h
  | n, q :: ps, 0, p, h => by simp at h; subst h; simp [enumP]
  | n, q :: ps, i + 1, p, h => by
    have := enumP_get (n + 1) ps i p (by simpa using h)
    simp only [enumP, List.getElem?_cons_succ, this]
    congr 4
    omega
theorem pair_new {W : Wd} {H : Hp} {T : Addr} {p q : PV} {x y : V} (h0 : Hold W H) (n : H T = none) (r1 : Rep O W p x) (r2 : Rep O W q y) : Stp W H (putW W T (.tup [x, y])) (upd H T (.tup [x, y])) ∧ Rep O (putW W T (.tup [x, y])) (.tup [p, q]) (.ref T) :=
  ⟨Stp.new h0 n, Rep.fixT (h0.none n) (RepL.cons r1 (RepL.cons r2 RepL.nil))⟩
theorem walkP_enumS {s : List Nat} (o : okS s) (h : ∀ W H, S W H → Hold W H) : WalkP O S (Itse (tx s)) (enumP 0 (s.map fun c => .str [c])) := by
  refine ⟨fun i W H hi _ => ?_, fun W H _ => ?_, fun i W H x H' hi q y => ?_⟩
  · show i < s.toArray.size
    rw [enumP_len] at hi
    simpa using hi
  · show _ = s.toArray.size
    rw [enumP_len]; simp
  · obtain ⟨T, c, e1, e2, e3, e4⟩ := y
    subst e1; subst e3
    have e5 : s[i]? = some c := by
      have : s.toArray[i]? = some c := e4
      simpa using this
    obtain ⟨t, r⟩ := pair_new (O := O) (p := .int (i : Nat)) (q := .str [c]) (x := .int (i : Nat)) (y := .str ⟨#[c]⟩) (h W H q) e2 (Rep.int_iff.mpr rfl) (Rep.str_iff.mpr ⟨rfl, fun d hd => by simp at hd; subst hd; exact o _ (List.mem_of_getElem? e5)⟩)
    refine ⟨_, _, t, ?_, r⟩
    have := enumP_get 0 (s.map fun c => PV.str [c]) i (.str [c]) (by rw [List.getElem?_map, e5]; rfl)
    simpa using this
theorem walkP_enum {a : Addr} {ps : List PV} (h : ∀ W H, S W H → Hold W H ∧ ∃ vs, SqL O.K H a vs ∧ RepL O W ps vs) : WalkP O S (Ite O.K a) (enumP 0 ps) := by
  refine ⟨fun i W H hi s => ?_, fun W H s => ?_, fun i W H x H' hi s y => ?_⟩
  · obtain ⟨_, vs, q, r⟩ := h W H s
    have hl := r.len
    rw [enumP_len] at hi
    exact ⟨vs, vs[i]'(by omega), q, List.getElem?_eq_getElem (by omega)⟩
  · obtain ⟨_, vs, q, r⟩ := h W H s
    exact ⟨vs, q, by rw [enumP_len, r.len]; exact Nat.le_refl _⟩
  · obtain ⟨h0, vs, q, r⟩ := h W H s
    obtain ⟨T, v, e1, e2, e3, e4⟩ := y
    subst e1; subst e3
    rw [enumP_len] at hi
    obtain ⟨v', e5, rv⟩ := r.get (i := i) (p := ps[i]) (List.getElem?_eq_getElem hi)
    rw [e4 vs q] at e5
    cases e5
    obtain ⟨t, rp⟩ := pair_new (O := O) (p := .int (i : Nat)) (x := .int (i : Nat)) h0 e2 (Rep.int_iff.mpr rfl) rv
    refine ⟨_, _, t, ?_, rp⟩
    have := enumP_get 0 ps i ps[i] (List.getElem?_eq_getElem hi)
    simpa using this
theorem walkP_range {lo : Int} {n : Nat} (h : ∀ W H, S W H → Hold W H) : WalkP O S (Itr lo n) (rngP lo n) := by
  refine ⟨fun i W H hi _ => ?_, fun W H _ => ?_, fun i W H x H' hi q y => ?_⟩
  · show i < n
    simpa [rngP] using hi
  · show n ≤ _
    simp [rngP]
  · obtain ⟨e1, e2⟩ := y
    subst e1; subst e2
    have hi' : i < n := by simpa [rngP] using hi
    exact ⟨W, .int (lo + i), Stp.refl (h W _ q), by simp [rngP, hi'], Rep.int_iff.mpr rfl⟩
end
section
variable {X : Cx} {Y : Cy} {tg e : Expr} {f : EX} {p pos : Pos}
/-- the states of a loop, for a borrowed list -/
theorem RepQ.walk {W1 : Wd} {ps : List PV} {x : V} (r : RepQ Y.O Y.W0 Y.H0 W1 (.lst ps) x) : ∃ a, x = .ref a ∧ ∀ W H, SL Y W1 W H → Hold W H ∧ ∃ vs, SqL Y.O.K H a vs ∧ RepL Y.O W ps vs := by
  rcases r with r | ⟨a, vs, ps', e1, e2, e3, e4, e5⟩
  · obtain ⟨a, vs, e, l, t⟩ := Rep.lst_iff.mp r
    exact ⟨a, e, fun W H s => ⟨s.2.ho, vs, (l.mono s.1).sq s.2.ho, t.mono s.1⟩⟩
  · cases e1
    exact ⟨a, e2, fun W H s => ⟨s.2.ho, vs, SqL.of (s.2.own e3 e4).1, e5.mono s.1⟩⟩
theorem RepQ.walkS {W1 : Wd} {ps : List PV} {x : V} (r : RepQ Y.O Y.W0 Y.H0 W1 (.scr ps) x) : ∃ a, x = .ref a ∧ ∀ W H, SL Y W1 W H → Hold W H ∧ ∃ vs, SqL Y.O.K H a vs ∧ RepL Y.O W ps vs := by
  rcases r with r | ⟨a, vs, ps', e1, _⟩
  · obtain ⟨a, vs, e, l, t⟩ := Rep.scr_iff.mp r
    exact ⟨a, e, fun W H s => ⟨s.2.ho, vs, (l.mono s.1).sq s.2.ho, t.mono s.1⟩⟩
  · cases e1
theorem RepB.walk {W1 : Wd} {H1 : Hp} {ps : List PV} {x : V} (r : RepB Y.O W1 H1 (.lst ps) x) : ∃ a, x = .ref a ∧ ∀ W H, SC W1 H1 W H → Hold W H ∧ ∃ vs, SqL Y.O.K H a vs ∧ RepL Y.O W ps vs := by
  rcases r with r | ⟨a, vs, ps', e1, e2, e3, e4, e5⟩
  · obtain ⟨a, vs, e, l, t⟩ := Rep.lst_iff.mp r
    exact ⟨a, e, fun W H s => ⟨s.ho, vs, (l.mono s.le).sq s.ho, t.mono s.le⟩⟩
  · cases e1
    exact ⟨a, e2, fun W H s => ⟨s.ho, vs, SqL.of (s.own e3 e4).1, e5.mono s.le⟩⟩
theorem RepB.walkS {W1 : Wd} {H1 : Hp} {ps : List PV} {x : V} (r : RepB Y.O W1 H1 (.scr ps) x) : ∃ a, x = .ref a ∧ ∀ W H, SC W1 H1 W H → Hold W H ∧ ∃ vs, SqL Y.O.K H a vs ∧ RepL Y.O W ps vs := by
  obtain ⟨a, vs, e, l, t⟩ := r.scr
  exact ⟨a, e, fun W H s => ⟨s.ho, vs, (l.mono s.le).sq s.ho, t.mono s.le⟩⟩
theorem gi_list (hK : Y.O.K = X.K) (he : PE X e (tQ Y f)) : PI X tg e (tIl Y (lUn iSeq f)) := by
  refine pi_imp (pi_list he) fun σ H R ⟨W, env, E, r⟩ => ⟨W, env, E, (RP.bind E.ho r).mono fun W1 H1 q s1 k1 x rx => ?_⟩
  have E1 := E.step s1
  obtain ⟨ps, hz, kz⟩ := RP.ofO k1
  have key : ∃ a, x = .ref a ∧ ∀ W H, SL Y W1 W H → Hold W H ∧ ∃ vs, SqL Y.O.K H a vs ∧ RepL Y.O W ps vs := by
    cases q with
    | lst l => cases hz; exact rx.walk
    | scr l => cases hz; exact rx.walkS
    | _ => cases hz
  obtain ⟨a, e1, h⟩ := key
  obtain ⟨_, vs, q1, _⟩ := h W1 H1 ⟨Wle.refl W1, E1.st⟩
  rw [← hK]
  exact ⟨a, e1, ⟨vs, q1⟩, kz W1 H1 (Stp.refl E1.ho) _ (walkP_list h fun _ _ _ _ _ _ _ _ _ _ => trivial)⟩
theorem gic_list (hK : Y.O.K = X.K) (he : PE X e (tB Y f)) : PI X tg e (tIc Y (lUn iSeq f)) := by
  refine pi_imp (pi_list he) fun σ H R ⟨W, env, E, r⟩ => ⟨W, env, E, (RP.bind E.ho r).mono fun W1 H1 q s1 k1 x rx => ?_⟩
  have E1 := E.step s1
  obtain ⟨ps, hz, kz⟩ := RP.ofO k1
  have key : ∃ a, x = .ref a ∧ ∀ W H, SC W1 H1 W H → Hold W H ∧ ∃ vs, SqL Y.O.K H a vs ∧ RepL Y.O W ps vs := by
    cases q with
    | lst l => cases hz; exact rx.walk
    | scr l => cases hz; exact rx.walkS
    | _ => cases hz
  obtain ⟨a, e1, h⟩ := key
  obtain ⟨_, vs, q1, _⟩ := h W1 H1 (Stp.refl E1.ho)
  rw [← hK]
  exact ⟨a, e1, ⟨vs, q1⟩, kz W1 H1 (Stp.refl E1.ho) _ (walkP_list h fun _ _ _ _ _ _ _ _ _ _ => trivial)⟩
theorem gi_str (he : PE X e (tB Y f)) : PI X tg e (tIl Y (lUn iTxt f)) := by
  refine pi_imp (pi_str he) fun σ H R ⟨W, env, E, r⟩ => ⟨W, env, E, (RP.bind E.ho r).mono fun W1 H1 q s1 k1 x rx => ?_⟩
  have E1 := E.step s1
  obtain ⟨ps, hz, kz⟩ := RP.ofO k1
  cases q with
  | str s =>
    cases hz
    obtain ⟨e1, o⟩ := rx.str
    exact ⟨tx s, e1, kz W1 H1 (Stp.refl E1.ho) _ (walkP_str o fun _ _ s => s.2.ho)⟩
  | _ => cases hz
theorem gic_str (he : PE X e (tB Y f)) : PI X tg e (tIc Y (lUn iTxt f)) := by
  refine pi_imp (pi_str he) fun σ H R ⟨W, env, E, r⟩ => ⟨W, env, E, (RP.bind E.ho r).mono fun W1 H1 q s1 k1 x rx => ?_⟩
  have E1 := E.step s1
  obtain ⟨ps, hz, kz⟩ := RP.ofO k1
  cases q with
  | str s =>
    cases hz
    obtain ⟨e1, o⟩ := rx.str
    exact ⟨tx s, e1, kz W1 H1 (Stp.refl E1.ho) _ (walkP_str o fun _ _ s => s.ho)⟩
  | _ => cases hz
variable {elts : List Expr} {kk : Nat} {tpos : Pos}
/-- enumerate of a text -/
theorem gi_enumS (hm : X.mg "enumerate" = none) (he : PE X e (tB Y f)) (hg : Gl X "enumerate" := by rfl) (hs : starEach [e] X.env = [(false, eval e X.env)] := by rfl) (hs2 : starEach [e] X.env = (false, eval e X.env) :: starEach [] X.env := by rfl) : PI X (.Tuple elts kk tpos) (.Call (.Name "enumerate" p) [e] [] pos) (tIl Y (lUn iEnS f)) := by
  refine pi_imp (pi_enumS hg hm (pa_cons he pa_nil hs2) hs) fun σ H R ⟨W, env, E, r⟩ => ⟨W, env, E, (RP.bind E.ho r).mono fun W1 H1 q s1 k1 x rx => ?_⟩
  have E1 := E.step s1
  obtain ⟨ps, hz, kz⟩ := RP.ofO k1
  cases q with
  | str s =>
    cases hz
    obtain ⟨e1, o⟩ := rx.str
    exact ⟨tx s, by rw [e1], kz W1 H1 (Stp.refl E1.ho) _ (walkP_enumS o fun _ _ s => s.2.ho)⟩
  | _ => cases hz
/-- enumerate of a list -/
theorem gi_enum (hK : Y.O.K = X.K) (hm : X.mg "enumerate" = none) (he : PE X e (tQ Y f)) (hg : Gl X "enumerate" := by rfl) (hs : starEach [e] X.env = [(false, eval e X.env)] := by rfl) (hs2 : starEach [e] X.env = (false, eval e X.env) :: starEach [] X.env := by rfl) : PI X (.Tuple elts kk tpos) (.Call (.Name "enumerate" p) [e] [] pos) (tIl Y (lUn iEnL f)) := by
  refine pi_imp (pi_enum hg hm (pa_cons he pa_nil hs2) hs) fun σ H R ⟨W, env, E, r⟩ => ⟨W, env, E, (RP.bind E.ho r).mono fun W1 H1 q s1 k1 x rx => ?_⟩
  have E1 := E.step s1
  obtain ⟨ps, hz, kz⟩ := RP.ofO k1
  have key : ∃ qs a, ps = enumP 0 qs ∧ x = .ref a ∧ ∀ W H, SL Y W1 W H → Hold W H ∧ ∃ vs, SqL Y.O.K H a vs ∧ RepL Y.O W qs vs := by
    cases q with
    | lst l => cases hz; obtain ⟨a, h1, h2⟩ := rx.walk; exact ⟨l, a, rfl, h1, h2⟩
    | scr l => cases hz; obtain ⟨a, h1, h2⟩ := rx.walkS; exact ⟨l, a, rfl, h1, h2⟩
    | _ => cases hz
  obtain ⟨qs, a, e0, e1, h⟩ := key
  subst e0
  obtain ⟨_, vs, q1, _⟩ := h W1 H1 ⟨Wle.refl W1, E1.st⟩
  refine ⟨a, vs, by rw [e1], by rw [← hK]; exact q1, ?_⟩
  rw [← hK]
  exact kz W1 H1 (Stp.refl E1.ho) _ (walkP_enum h)
theorem gi_rng1 (hm : X.mg "range" = none) (he : PE X e (tP Y f)) (hg : Gl X "range" := by rfl) (hs : starEach [e] X.env = [(false, eval e X.env)] := by rfl) (hs2 : starEach [e] X.env = (false, eval e X.env) :: starEach [] X.env := by rfl) : PI X tg (.Call (.Name "range" p) [e] [] pos) (tIl Y (lUn iRn1 f)) := by
  refine pi_imp (pi_range1 hg hm (pa_cons he pa_nil hs2) hs) fun σ H R ⟨W, env, E, r⟩ => ⟨W, env, E, (RP.bind E.ho r).mono fun W1 H1 q s1 k1 x rx => ?_⟩
  have E1 := E.step s1
  obtain ⟨ps, hz, kz⟩ := RP.ofO k1
  cases q with
  | int n =>
    dsimp only [iRn1] at hz
    by_cases c : (-(2 ^ 62) ≤ n && n < 2 ^ 62) = true
    · rw [if_pos c] at hz
      cases hz
      simp only [Bool.and_eq_true, decide_eq_true_eq] at c
      exact ⟨n, by rw [Rep.int_iff.mp rx], c.1, c.2, kz W1 H1 (Stp.refl E1.ho) _ (walkP_range fun _ _ s => s.2.ho)⟩
    · rw [if_neg c] at hz; cases hz
  | _ => cases hz
theorem gic_rng1 (hm : X.mg "range" = none) (he : PE X e (tP Y f)) (hg : Gl X "range" := by rfl) (hs : starEach [e] X.env = [(false, eval e X.env)] := by rfl) (hs2 : starEach [e] X.env = (false, eval e X.env) :: starEach [] X.env := by rfl) : PI X tg (.Call (.Name "range" p) [e] [] pos) (tIc Y (lUn iRn1 f)) := by
  refine pi_imp (pi_range1 hg hm (pa_cons he pa_nil hs2) hs) fun σ H R ⟨W, env, E, r⟩ => ⟨W, env, E, (RP.bind E.ho r).mono fun W1 H1 q s1 k1 x rx => ?_⟩
  have E1 := E.step s1
  obtain ⟨ps, hz, kz⟩ := RP.ofO k1
  cases q with
  | int n =>
    dsimp only [iRn1] at hz
    by_cases c : (-(2 ^ 62) ≤ n && n < 2 ^ 62) = true
    · rw [if_pos c] at hz
      cases hz
      simp only [Bool.and_eq_true, decide_eq_true_eq] at c
      exact ⟨n, by rw [Rep.int_iff.mp rx], c.1, c.2, kz W1 H1 (Stp.refl E1.ho) _ (walkP_range fun _ _ s => s.ho)⟩
    · rw [if_neg c] at hz; cases hz
  | _ => cases hz
theorem gi_rng2 {e2 : Expr} {f2 : EX} (hm : X.mg "range" = none) (he : PE X e (tP Y f)) (he2 : PE X e2 (tP Y f2)) (hg : Gl X "range" := by rfl) (hs : starEach [e, e2] X.env = [(false, eval e X.env), (false, eval e2 X.env)] := by rfl) (hs2 : starEach [e2] X.env = [(false, eval e2 X.env)] := by rfl) (hs3 : starEach [e, e2] X.env = (false, eval e X.env) :: starEach [e2] X.env := by rfl) (hs4 : starEach [e2] X.env = (false, eval e2 X.env) :: starEach [] X.env := by rfl) : PI X tg (.Call (.Name "range" p) [e, e2] [] pos) (tIl Y (lOp iRn2 f f2)) := by
  refine pi_imp (pi_range2 hg hm (pa_cons he (pa_cons he2 pa_nil hs4) hs3) hs hs2) fun σ H R ⟨W, env, E, r⟩ => ⟨W, env, E, (RP.bind E.ho r).mono fun W1 H1 q s1 k1 x rx => ?_⟩
  have E1 := E.step s1
  refine ⟨W1, env, E1, (RP.bind E1.ho k1).mono fun W2 H2 q2 s2 k2 x2 rx2 => ?_⟩
  have E2 := E1.step s2
  obtain ⟨ps, hz, kz⟩ := RP.ofO k2
  cases q with
  | int n =>
    cases q2 with
    | int n2 =>
      dsimp only [iRn2] at hz
      by_cases c : (-(2 ^ 62) ≤ n && n < 2 ^ 62 && -(2 ^ 62) ≤ n2 && n2 < 2 ^ 62) = true
      · rw [if_pos c] at hz
        cases hz
        simp only [Bool.and_eq_true, decide_eq_true_eq] at c
        exact ⟨n, n2, by rw [Rep.int_iff.mp rx, Rep.int_iff.mp rx2], ⟨c.1.1.1, c.1.1.2, c.1.2, c.2⟩, kz W2 H2 (Stp.refl E2.ho) _ (walkP_range fun _ _ s => s.2.ho)⟩
      · rw [if_neg c] at hz; cases hz
    | _ => cases hz
  | _ => cases q2 <;> cases hz
/-! ### for -/
theorem forF_step {b : BX} {s : SX} {ps : List PV} {i : Nat} {p : PV} (h : ps[i]? = some p) (env : Ev) : forF b s (ps.drop i) env = match b p env with
    | .ok e => (match s e with | .nx e' => forF b s (ps.drop (i + 1)) e' | .ct e' => forF b s (ps.drop (i + 1)) e' | .bk e' => .nx e' | o => o)
    | _ => .bad := by
  have hi := (List.getElem?_eq_some_iff.mp h).1
  have e : ps.drop i = p :: ps.drop (i + 1) := by
    rw [List.drop_eq_getElem_cons hi]
    congr 1
    have := List.getElem?_eq_getElem hi
    rw [h] at this
    exact (Option.some.inj this).symm
  rw [e]
  rfl
theorem gs_for {iter : Expr} {body : List Stmt} {fa : AX} {b : BX} {s : SX} (hp : PassesOwn (model X.prog X.w) X.A X.env X.xe) (hc : X.calm = true) (hi : PI X tg iter (tIl Y fa)) (hg : PGP X Y tg b) (hb : PSs X body (tS Y s)) (hs : ∀ x, foldedSetIterable iter X.env x = pure x := by intro _; rfl) :
    PS X (.For tg iter body [] pos) (tS Y (sFor b fa s)) := by
  obtain ⟨g, hg, kg⟩ := hg
  refine ps_imp (ps_for hp hc hi hg hb hs) fun D σ H ⟨W, env, E, q⟩ => ⟨W, env, E, ?_⟩
  have q : OP Y D W (sFor b fa s env) := q
  refine OP.rp E q fun ps _ q W1 H1 t J w => ?_
  have E1 := E.step t
  have q1 : OP Y D W1 (forF b s ps env) := q.up t.le
  refine ⟨fun i m σ H => m = ps.length - i ∧ i ≤ ps.length ∧ ∃ W2 env2, Wle W1 W2 ∧ EnvR Y W2 H σ env2 ∧ OP Y D W2 (forF b s (ps.drop i) env2), ⟨ps.length, by simp, Nat.zero_le _, W1, env, Wle.refl W1, E1, by simpa using q1⟩, ?_⟩
  rintro i m σ2 H2 ⟨rfl, hi, W2, env2, l2, E2, q2⟩
  by_cases hlt : i < ps.length
  · refine .inr ⟨w.go i W2 H2 hlt ⟨l2, E2.st⟩, fun σ' H' => ∃ W3 env3, Wle W1 W3 ∧ EnvR Y W3 H' σ' env3 ∧ OP Y D W3 (forF b s (ps.drop (i + 1)) env3), fun σ' H' z => ⟨ps.length - (i + 1), by omega, rfl, hlt, z⟩, fun x H' y => ?_⟩
    obtain ⟨W3, p, t3, hp, rp⟩ := w.yld i W2 H2 x H' hlt ⟨l2, E2.st⟩ y
    rw [forF_step hp] at q2
    have E3 := E2.step t3
    cases hb : b p env2 with
    | ok e =>
      rw [hb] at q2
      dsimp only at q2
      refine kg W3 H' σ2 env2 e p x _ E3 rp hb fun W4 H4 σ4 l4 E4 => ⟨W4, e, E4, ?_⟩
      show OP Y _ W4 (s e)
      have l24 : Wle W2 W4 := t3.le.trans l4
      cases hse : s e with
      | nx e' =>
        rw [hse] at q2
        exact fun W5 H5 σ5 l5 E5 => ⟨W5, e', l2.trans (l24.trans l5), E5, q2.up (l24.trans l5)⟩
      | ct e' =>
        rw [hse] at q2
        exact fun W5 H5 σ5 l5 E5 => ⟨W5, e', l2.trans (l24.trans l5), E5, q2.up (l24.trans l5)⟩
      | bk e' =>
        rw [hse] at q2
        exact fun W5 H5 σ5 l5 E5 => q2 W5 H5 σ5 (l24.trans l5) E5
      | rt p' => rw [hse] at q2; exact q2
      | rf p' => rw [hse] at q2; exact q2
      | ex x' e' =>
        rw [hse] at q2
        exact fun W5 H5 σ5 cls d l5 E5 z => q2 W5 H5 σ5 cls d (l24.trans l5) E5 z
      | bad => rw [hse] at q2; exact False.elim q2
    | ex _ => rw [hb] at q2; exact False.elim q2
    | bad => rw [hb] at q2; exact False.elim q2
  · have e : i = ps.length := by omega
    subst e
    refine .inl ⟨w.stop W2 H2 ⟨l2, E2.st⟩, ?_⟩
    rw [List.drop_length] at q2
    exact q2 W2 H2 σ2 (Wle.refl W2) E2
theorem gs_while {c : Expr} {body : List Stmt} {s : SX} (hp : PassesOwn (model X.prog X.w) X.A X.env X.xe) (hc : PT X c (tT Y f)) (hb : PSs X body (tS Y s)) : PS X (.While c body [] pos) (tS Y (sWh f s)) := by
  refine ps_imp (ps_while hp hc hb) fun D σ H ⟨W, env, E, q⟩ => ?_
  have q : OP Y D W (sWh f s env) := q
  have hne : sWh f s env ≠ .bad := fun z => by rw [z] at q; exact q
  obtain ⟨n, hn⟩ := sWh_out hne
  rw [← hn] at q
  refine ⟨fun m σ H => ∃ W2 env2, EnvR Y W2 H σ env2 ∧ OP Y D W2 (whF f s m env2), ⟨n, W, env, E, q⟩, ?_⟩
  rintro m σ2 H2 ⟨W2, env2, E2, q2⟩
  refine ⟨W2, env2, E2, ?_⟩
  cases m with
  | zero => exact False.elim q2
  | succ m =>
    unfold whF at q2
    cases hf : f env2 with
    | ok p =>
      rw [hf] at q2
      cases p with
      | bl d =>
        intro W' H' t
        have E3 := E2.step t
        cases d with
        | false => exact ⟨false, rfl, q2 W' H' σ2 t.le E3⟩
        | true =>
          refine ⟨true, rfl, fun σ' H' => ∃ W3 env3, EnvR Y W3 H' σ' env3 ∧ OP Y D W3 (whF f s m env3), fun σ' H' z => ⟨m, Nat.lt_succ_self m, z⟩, W', env2, E3, ?_⟩
          show OP Y _ W' (s env2)
          dsimp only at q2
          cases hse : s env2 with
          | nx e' =>
            rw [hse] at q2
            exact fun W5 H5 σ5 l5 E5 => ⟨W5, e', E5, q2.up (t.le.trans l5)⟩
          | ct e' =>
            rw [hse] at q2
            exact fun W5 H5 σ5 l5 E5 => ⟨W5, e', E5, q2.up (t.le.trans l5)⟩
          | bk e' =>
            rw [hse] at q2
            exact fun W5 H5 σ5 l5 E5 => q2 W5 H5 σ5 (t.le.trans l5) E5
          | rt p' => rw [hse] at q2; exact q2
          | rf p' => rw [hse] at q2; exact q2
          | ex x' e' =>
            rw [hse] at q2
            exact fun W5 H5 σ5 cls d l5 E5 z => q2 W5 H5 σ5 cls d (t.le.trans l5) E5 z
          | bad => rw [hse] at q2; exact False.elim q2
      | _ => exact False.elim q2
    | ex x => rw [hf] at q2; exact fun W' H' cls d t z => q2 W' H' σ2 cls d t.le (E2.step t) z
    | bad => rw [hf] at q2; exact False.elim q2
end
end JP

set_option Elab.async false
set_option linter.all false
set_option maxRecDepth 100000
/-! JP8: a def by its body; errors. -/
namespace JP
open PySem L2
/-! ### a def -/
theorem argS_len : ∀ {md : List Bool} {ps : List PV}, ps.length = md.length → (argS md ps).length = md.length
  | [], [], _ => rfl
  | [], _ :: _, h => by simp at h
  | true :: md, p :: ps, h => by simp only [argS, List.length_cons, argS_len (md := md) (ps := ps) (by simpa using h)]
  | false :: md, p :: ps, h => by simp only [argS, List.length_cons, argS_len (md := md) (ps := ps) (by simpa using h)]
  | m :: md, [], h => by simp at h
theorem argS_slot {Y : Cy} : ∀ {md : List Bool} {ps : List PV} {vs : List V}, ArgR Y.O Y.W0 Y.H0 md ps vs → ∀ (i : Nat) s, (argS md ps)[i]? = some s → ∃ v, vs[i]? = some v ∧ SlR Y Y.W0 Y.H0 (some v) s none
  | [], _, _, ⟨h1, h2⟩, i, s, e => by rw [h1] at e; simp [argS] at e
  | m :: ms, _, _, h, i, s, e => by
    obtain ⟨p, pr, v, vr, e1, e2, h1, h2⟩ := h
    subst e1; subst e2
    cases m with
    | true =>
      simp only [argS] at e
      cases i with
      | zero =>
        simp at e; subst e
        refine ⟨v, rfl, rfl, v, rfl, ?_⟩
        rcases (show RepB Y.O Y.W0 Y.H0 p v from h1) with r | ⟨a, vs, ps, q1, q2, q3, q4, q5⟩
        · exact .inl r
        · exact .inr ⟨a, vs, ps, q1, q2, q3, q4, q5⟩
      | succ i =>
        obtain ⟨w, q1, q2⟩ := argS_slot h2 i s (by simpa using e)
        exact ⟨w, by simpa using q1, q2⟩
    | false =>
      simp only [argS] at e
      cases i with
      | zero =>
        simp at e; subst e
        exact ⟨v, rfl, rfl, v, rfl, h1⟩
      | succ i =>
        obtain ⟨w, q1, q2⟩ := argS_slot h2 i s (by simpa using e)
        exact ⟨w, by simpa using q1, q2⟩
theorem env_start {Y : Cy} {N : List Str} {md : List Bool} {ps : List PV} {vs : List V} (h : ArgR Y.O Y.W0 Y.H0 md ps vs) (hn : md.length ≤ N.length) : EnvR Y Y.W0 Y.H0 (start N vs) (env0 N.length (argS md ps)) := by
  have hl := h.len
  have la := argS_len (md := md) (ps := ps) hl.2
  have len : (start N vs).length = (env0 N.length (argS md ps)).length := by
    unfold L2.start env0
    simp only [List.length_append, List.length_map, List.length_replicate, la, hl.1]
  refine ⟨Stp.refl Y.h0, len, List.replicate (env0 N.length (argS md ps)).length none, by simp, fun i s x b e1 e2 e3 => ?_, fun i j a e1 e2 => ?_⟩
  · have eb : b = none := by
      rw [List.getElem?_replicate] at e3
      split at e3
      · exact (Option.some.inj e3).symm
      · cases e3
    subst eb
    unfold env0 at e1
    unfold L2.start at e2
    by_cases hi : i < md.length
    · rw [List.getElem?_append_left (by rw [la]; exact hi)] at e1
      rw [List.getElem?_append_left (by rw [List.length_map, hl.1]; exact hi), List.getElem?_map] at e2
      obtain ⟨v, q1, q2⟩ := argS_slot h i s e1
      rw [q1] at e2
      cases e2
      exact q2
    · rw [List.getElem?_append_right (by rw [la]; omega), List.getElem?_replicate] at e1
      split at e1
      · cases e1
        exact rfl
      · cases e1
  · rw [List.getElem?_replicate] at e1
    split at e1
    · cases e1
    · cases e1
section
variable {P : Program} {w : World} {K : PySem.W.Frag} {mg : Str → Option Value} {base : Heap} {O : ObS} {x qual : Str} {st : Stmt} {f : Addr} {fd : FuncData} {N ps : List Str} {k : Nat}
/-- the context of a body -/
abbrev CxB (P : Program) (w : World) (K : PySem.W.Frag) (mg : Str → Option Value) (base : Heap) (N : List Str) (qual : Str) (st : Stmt) (f : Addr) (cdv : Value) (A : Around) (outer : List Env) (sh : Shared) (H : Hp) (E : XK) : Cx := cxOf (L2.CX P w) P w K mg base N qual (defScope st) f cdv A outer sh H E
theorem fn_P (F : Fun K x qual st f fd) (S : FnScope N ps (defScope st)) {md : List Bool} (hl : ps.length = md.length) (hn : md.length ≤ N.length) {s : SX}
    (hbody : ∀ (cdv : Value) (A : Around) (outer : List Env) (sh : Shared) (H : Hp) (E : XK) (Y : Cy), Y.O = O → Takes (CxB P w K mg base N qual st f cdv A outer sh H E) Y.Wx → PassesOwn (model P w) (CxB P w K mg base N qual st f cdv A outer sh H E).A (CxB P w K mg base N qual st f cdv A outer sh H E).env (CxB P w K mg base N qual st f cdv A outer sh H E).xe →
      Room k (CxB P w K mg base N qual st f cdv A outer sh H E).A → PSs (CxB P w K mg base N qual st f cdv A outer sh H E) (defBody st) (tS Y s)) :
    FnOk P w K mg base (L2.CX P w) (k + 1) f fd ps (spP O md (mkP N.length md s)) := by
  refine F.okX S (fun vs H Q E h => by rw [h.len, hl]) (fun cdv A outer sh H vs Q E hr h => ?_)
  obtain ⟨W, qs, h0, ha, rc⟩ := h
  refine ⟨_, hbody cdv A outer sh H E ⟨O, W, H, h0, fun cls d _ H' => E cls d H', 0, .none, none⟩ rfl (takes_of rfl rfl rfl rfl) (passes_of rfl) hr, W, env0 N.length (argS md qs), env_start (Y := ⟨O, W, H, h0, fun cls d _ H' => E cls d H', 0, .none, none⟩) ha hn, ?_⟩
  unfold mkP at rc
  rw [if_pos ha.len.2] at rc
  unfold runP at rc
  cases e : s (env0 N.length (argS md qs)) with
  | rt p => rw [e] at rc; exact fun W' H' x t r => rc W' H' t x r
  | nx e' => rw [e] at rc; exact fun W' H' σ' _ E' => rc W' H' E'.st .non (Rep.non_iff.mpr rfl)
  | ex x e' => rw [e] at rc; exact fun W' H' σ' cls d _ E' z => rc W' H' cls d E'.st z
  | rf p => rw [e] at rc; exact False.elim rc
  | bk p => rw [e] at rc; exact False.elim rc
  | ct p => rw [e] at rc; exact False.elim rc
  | bad => rw [e] at rc; exact False.elim rc
theorem fn_F (F : Fun K x qual st f fd) (S : FnScope N ps (defScope st)) {md : List Bool} (hl : ps.length = md.length) (hn : md.length ≤ N.length) {s : SX}
    (hbody : ∀ (cdv : Value) (A : Around) (outer : List Env) (sh : Shared) (H : Hp) (E : XK) (Y : Cy), Y.O = O → Takes (CxB P w K mg base N qual st f cdv A outer sh H E) Y.Wx → PassesOwn (model P w) (CxB P w K mg base N qual st f cdv A outer sh H E).A (CxB P w K mg base N qual st f cdv A outer sh H E).env (CxB P w K mg base N qual st f cdv A outer sh H E).xe →
      Room k (CxB P w K mg base N qual st f cdv A outer sh H E).A → PSs (CxB P w K mg base N qual st f cdv A outer sh H E) (defBody st) (tS Y s)) :
    FnOk P w K mg base (L2.CX P w) (k + 1) f fd ps (spF O md (mkF N.length md s)) := by
  refine F.okX S (fun vs H Q E h => by rw [h.len, hl]) (fun cdv A outer sh H vs Q E hr h => ?_)
  obtain ⟨W, qs, h0, ha, rc⟩ := h
  refine ⟨_, hbody cdv A outer sh H E ⟨O, W, H, h0, fun cls d _ H' => E cls d H', 0, .none, none⟩ rfl (takes_of rfl rfl rfl rfl) (passes_of rfl) hr, W, env0 N.length (argS md qs), env_start (Y := ⟨O, W, H, h0, fun cls d _ H' => E cls d H', 0, .none, none⟩) ha hn, ?_⟩
  unfold mkF at rc
  rw [if_pos ha.len.2] at rc
  unfold runF at rc
  cases e : s (env0 N.length (argS md qs)) with
  | rf p => rw [e] at rc; exact fun W' H' a vs t n nw h r => rc W' H' t a vs n nw h r
  | ex x e' => rw [e] at rc; exact fun W' H' σ' cls d _ E' z => rc W' H' cls d E'.st z
  | rt p => rw [e] at rc; exact False.elim rc
  | nx e' => rw [e] at rc; exact False.elim rc
  | bk p => rw [e] at rc; exact False.elim rc
  | ct p => rw [e] at rc; exact False.elim rc
  | bad => rw [e] at rc; exact False.elim rc
end
/-! ### the making of errors: C(..) whose __init__ stores its fields -/
/-- JoinError.__init__(self, ..), JoinError the own class at C0 -/
theorem pe_jeinit {X : Cx} {e : Expr} {es : List Expr} {ta : TA} {p1 p2 pos : Pos} {x : Str} {C0 : Addr} {pl : Sem Bool} (hm : X.mg x = some (.ref C0)) (hs : PySem.W.specialIn X.K (.ref C0) "__getattribute__" = some (some (.builtin "type.__getattribute__"))) (hrd : PySem.W.readsIn X.K C0 (.type "type") = true) (vV : PySem.W.findCls X.K (.ref C0) (.type "type") "__init__" = some (.val (.builtin "ValueError.__init__")))
    (ha : PA X (e :: es) ta) (hg : Gl X x := by rfl) (hdb : (x == ("__debug__" : Str)) = false := by decide)
    (hc : eval (.Call (.Attribute (.Name x p1) "__init__" p2) (e :: es) [] pos) X.env = (do
      let ov ← eval (.Name x p1) X.env
      standAt p2.atName
      let (f, first) ← holding [ov] (getMethod ov "__init__" pl)
      callWith pos f first (backTo pos (starEach (e :: es) X.env)) (backToKw pos (keywordEach [] X.env))) := by rfl)
    (he : starEach (e :: es) X.env = (false, eval e X.env) :: starEach es X.env := by rfl) (hpl : (backTo pos (starEach es X.env)).any (·.1) = false := by rfl) :
    PE X (.Call (.Attribute (.Name x p1) "__init__" p2) (e :: es) [] pos) (tVeI X.K ta) := by
  refine ⟨fun pins s σ H Q I h => ?_⟩
  refine PySem.W.methodCall_KW (ld_glob I hg hm ?_ hdb) hc
  refine PySem.W.method_cls I.kIn hs (PySem.W.cls_value I.kIn hrd vV (by decide +kernel) ?_)
  show wpAny _ _ (callWith pos (Value.builtin "ValueError.__init__") [] (backTo pos (starEach (e :: es) X.env)) []) _ _ _
  refine PyProof.Rows.callWith_method1 (thn (ha.run pos pins _ σ H _ (I.tok _) h) fun us s1 ⟨vs, H1, I1, r1, a, C, ws, ev, hl, T, ea, q⟩ => ?_) he hpl
  subst ev
  cases r1 with
  | @cons _ u0 _ ur ra rw' =>
    obtain rfl : u0 = Value.ref a := ra
    have hlen : ur.length ≤ sizeLine := by
      rw [← Paired.length rw', sizeLine_eq]
      omega
    exact oinit_ok T I1 ea hlen fun s' J => ⟨.non, H1, J, rfl, q⟩
/-- what a field store leaves -/
def spX1 (C : Addr) (f : Str) : Sp := fun vs H Q _ => ∃ (a : Addr) (y : V), vs = [.ref a, y] ∧ H a = some (exo a C none) ∧ ∀ dx, H dx = none → dx ≠ a → Q .non (upd (upd H dx (exd dx [(f, y)])) a (exo a C (some dx)))
def spX2 (C : Addr) (f g : Str) : Sp := fun vs H Q _ => ∃ (a : Addr) (y z : V), vs = [.ref a, y, z] ∧ H a = some (exo a C none) ∧ ∀ dx, H dx = none → dx ≠ a → Q .non (upd (upd (upd H dx (exd dx [(f, y)])) a (exo a C (some dx))) dx (exd dx [(g, z), (f, y)]))
/-- an error class of the text: made by its __init__ (promise sp, parameters ps) -/
def GXc (P : Program) (w : World) (K : PySem.W.Frag) (mg : Str → Option Value) (base : Heap) (x : Str) (C : Addr) (k : Nat) (sp : Sp) : Prop :=
  OexC K C ∧ mg x = some (.ref C) ∧ ∃ (fI : Addr) (fd : FuncData) (ps : List Str), PySem.W.findIn K (.ref C) "__init__" = some (some (.ref fI)) ∧ PySem.W.typeIn K (.ref fI) = some (.type "function") ∧ FnOk P w K mg base CX0 k fI fd ps sp ∧ Binds K fd ps []
theorem heap_xd {H1 : Hp} {a dx : Addr} {o1 o2 : HO} {o3 : HO} (na : H1 a = none) (ne : dx ≠ a) : upd (del (upd (upd (upd H1 a o1) dx o2) a o3) a) dx o3 = upd H1 dx o3 := by
  funext b
  by_cases hb : b = dx
  · subst hb; rw [upd_same, upd_same]
  · rw [upd_ne hb, upd_ne hb]
    by_cases ha : b = a
    · subst ha; rw [del_same, na]
    · rw [del_ne ha, upd_ne ha, upd_ne hb, upd_ne ha]
section
variable {X : Cx} {Y : Cy} {e e2 : Expr} {f g : EX} {x : Str} {p pos pos2 : Pos} {C : Addr} {k : Nat}
theorem gs_raise1 (c fn : String) (G : GXc X.prog X.w X.K X.mg X.base x C k (spX1 C (PySem.Str.ofString fn))) (hcl : Y.O.cl c = some C) (hc : X.calm = true) (hr : Room (k + 1) X.A) (tk : Takes X Y.Wx) (ha : PA X [e] (tAr Y [false] (aCons f aNil)))
    (hg : Gl X x := by rfl) (hdb : (x == ("__debug__" : Str)) = false := by decide) (he : starEach [e] X.env = (false, eval e X.env) :: starEach [] X.env := by rfl) (hpl : (backTo pos (starEach [] X.env)).any (·.1) = false := by rfl) :
    PS X (.Raise (some (.Call (.Name x p) [e] [] pos)) none pos2) (tS Y (sRaise c [fn] (aCons f aNil))) := by
  obtain ⟨T, hm, fI, fd, ps, iC, tI, F1, hb⟩ := G
  refine ps_imp (ps_raise hc tk (pmk_oex T iC tI F1 hr hb .nil pass0 hg hm ha hdb he hpl)) fun D σ H ⟨W, env, E, q⟩ => ⟨W, env, E, ?_⟩
  have q : OP Y D W (sRaise c [fn] (aCons f aNil) env) := q
  refine OP.rp E q fun qs _ q W1 H1 t xs rx => ?_
  have E1 := E.step t
  obtain ⟨p1, pr, v1, vr, e1, e2, h1, e3, e4⟩ := rx
  subst e3; subst e4; subst e1; subst e2
  refine ⟨by simp, fun a na => ⟨a, v1, rfl, upd_same, fun dx nd ne => ⟨rfl, dx, [(PySem.Str.ofString fn, v1)], upd_same, ?_, ?_, ?_⟩⟩⟩
  · rw [upd_ne ne, upd_same]
  · rw [upd_ne ne] at nd; exact nd
  · have nd' : H1 dx = none := by rw [upd_ne ne] at nd; exact nd
    have hh : upd (del (upd (upd (upd H1 a (exo a C none)) dx (exd dx [(PySem.Str.ofString fn, v1)])) a (exo a C (some dx))) a) dx (.xd [(PySem.Str.ofString fn, v1)]) = upd H1 dx (.xd [(PySem.Str.ofString fn, v1)]) := by
      funext b
      by_cases hb : b = dx
      · subst hb; rw [upd_same, upd_same]
      · rw [upd_ne hb, upd_ne hb]
        by_cases ha : b = a
        · subst ha; rw [del_same, na]
        · rw [del_ne ha, upd_ne ha, upd_ne hb, upd_ne ha]
    rw [hh]
    have st : Stp W1 H1 (putW W1 dx (.xd [(PySem.Str.ofString fn, v1)])) (upd H1 dx (.xd [(PySem.Str.ofString fn, v1)])) := Stp.new E1.ho nd'
    refine q _ _ σ (.ref C) (some dx) (t.le.trans st.le) (E1.step st) ⟨C, hcl, rfl, .inr ⟨dx, _, rfl, putW_same, fun f' p' hl => ?_⟩⟩
    simp only [List.zip_cons_cons, List.zip_nil_right] at hl
    by_cases hf : f' = fn
    · subst hf
      simp [List.lookup] at hl
      subst hl
      exact ⟨v1, by simp [List.lookup], h1.mono st.le⟩
    · have : (f' == fn) = false := by simpa using hf
      simp [List.lookup, this] at hl
theorem gs_raise2 (c fn gn : String) (hne : fn ≠ gn) (hne2 : PySem.Str.ofString fn ≠ PySem.Str.ofString gn) (G : GXc X.prog X.w X.K X.mg X.base x C k (spX2 C (PySem.Str.ofString fn) (PySem.Str.ofString gn))) (hcl : Y.O.cl c = some C) (hc : X.calm = true) (hr : Room (k + 1) X.A) (tk : Takes X Y.Wx) (ha : PA X [e, e2] (tAr Y [false, false] (aCons f (aCons g aNil))))
    (hg : Gl X x := by rfl) (hdb : (x == ("__debug__" : Str)) = false := by decide) (he : starEach [e, e2] X.env = (false, eval e X.env) :: starEach [e2] X.env := by rfl) (hpl : (backTo pos (starEach [e2] X.env)).any (·.1) = false := by rfl) :
    PS X (.Raise (some (.Call (.Name x p) [e, e2] [] pos)) none pos2) (tS Y (sRaise c [fn, gn] (aCons f (aCons g aNil)))) := by
  obtain ⟨T, hm, fI, fd, ps, iC, tI, F1, hb⟩ := G
  refine ps_imp (ps_raise hc tk (pmk_oex T iC tI F1 hr hb .nil pass0 hg hm ha hdb he hpl)) fun D σ H ⟨W, env, E, q⟩ => ⟨W, env, E, ?_⟩
  have q : OP Y D W (sRaise c [fn, gn] (aCons f (aCons g aNil)) env) := q
  refine OP.rp E q fun qs _ q W1 H1 t xs rx => ?_
  have E1 := E.step t
  obtain ⟨p1, pr, v1, vr, e1, e2, h1, p2, pr2, v2, vr2, e3, e4, h2, e5, e6⟩ := rx
  subst e5; subst e6; subst e3; subst e4; subst e1; subst e2
  refine ⟨by simp, fun a na => ⟨a, v1, v2, rfl, upd_same, fun dx nd ne => ⟨rfl, dx, [(PySem.Str.ofString gn, v2), (PySem.Str.ofString fn, v1)], ?_, upd_same, ?_, ?_⟩⟩⟩
  · rw [upd_ne (Ne.symm ne), upd_same]
  · rw [upd_ne ne] at nd; exact nd
  · have nd' : H1 dx = none := by rw [upd_ne ne] at nd; exact nd
    have hh : upd (del (upd (upd (upd (upd H1 a (exo a C none)) dx (exd dx [(PySem.Str.ofString fn, v1)])) a (exo a C (some dx))) dx (exd dx [(PySem.Str.ofString gn, v2), (PySem.Str.ofString fn, v1)])) a) dx (.xd [(PySem.Str.ofString gn, v2), (PySem.Str.ofString fn, v1)]) = upd H1 dx (.xd [(PySem.Str.ofString gn, v2), (PySem.Str.ofString fn, v1)]) := by
      funext b
      by_cases hb : b = dx
      · subst hb; rw [upd_same, upd_same]
      · rw [upd_ne hb, upd_ne hb]
        by_cases ha : b = a
        · subst ha; rw [del_same, na]
        · rw [del_ne ha, upd_ne hb, upd_ne ha, upd_ne hb, upd_ne ha]
    rw [hh]
    have st : Stp W1 H1 (putW W1 dx (.xd [(PySem.Str.ofString gn, v2), (PySem.Str.ofString fn, v1)])) (upd H1 dx (.xd [(PySem.Str.ofString gn, v2), (PySem.Str.ofString fn, v1)])) := Stp.new E1.ho nd'
    refine q _ _ σ (.ref C) (some dx) (t.le.trans st.le) (E1.step st) ⟨C, hcl, rfl, .inr ⟨dx, _, rfl, putW_same, fun f' p' hl => ?_⟩⟩
    simp only [List.zip_cons_cons, List.zip_nil_right] at hl
    by_cases hf : f' = fn
    · subst hf
      simp [List.lookup] at hl
      subst hl
      have hb : (PySem.Str.ofString f' == PySem.Str.ofString gn) = false := by simpa using hne2
      exact ⟨v1, by simp [List.lookup, hb], h1.mono st.le⟩
    · have h' : (f' == fn) = false := by simpa using hf
      by_cases hf2 : f' = gn
      · subst hf2
        simp [List.lookup, h'] at hl
        subst hl
        exact ⟨v2, by simp [List.lookup], h2.mono st.le⟩
      · have h'' : (f' == gn) = false := by simpa using hf2
        simp [List.lookup, h', h''] at hl
end
/-! ### try -/
/-- what is raised by the classes known, against the clause's class c, named h -/
def XM (O : ObS) (h : String) (c : Value) : Prop := ∀ n C, O.cl n = some C → PySem.W.exmOne O.K (.ref C) c = some (subX n h)
theorem EnvR.wish {Y : Cy} {W : Wd} {H : Hp} {σ : St} {env : Ev} (Wx : WX) (E : EnvR Y W H σ env) : EnvR { Y with Wx := Wx } W H σ env := by
  obtain ⟨bs, l, h, d⟩ := E.ex
  refine ⟨E.st, E.len, bs, l, fun i s x b e1 e2 e3 => ?_, d⟩
  have q := h i s x b e1 e2 e3
  cases s <;> exact q
theorem EnvR.unwish {Y : Cy} {W : Wd} {H : Hp} {σ : St} {env : Ev} {Wx : WX} (E : EnvR { Y with Wx := Wx } W H σ env) : EnvR Y W H σ env := by
  obtain ⟨bs, l, h, d⟩ := E.ex
  refine ⟨E.st, E.len, bs, l, fun i s x b e1 e2 e3 => ?_, d⟩
  have q := h i s x b e1 e2 e3
  cases s <;> exact q
def Cy.su (Y : Cy) (a : Addr) (cls : Value) (d : Option Addr) : Cy := { Y with Wx := fun _ _ _ _ => False, xa := a, xc := cls, xd := d }
theorem noX_at {e : Ev} (h : noX e = true) {i : Nat} {s : Sl} (hs : e[i]? = some s) : ∀ x, s ≠ .x x := by
  unfold noX at h
  rw [List.all_eq_true] at h
  intro x z
  have := h s (List.mem_of_getElem? hs)
  rw [z] at this
  cases this
theorem EnvR.su {Y : Cy} {W : Wd} {H : Hp} {σ : St} {env : Ev} (a : Addr) (cls : Value) (d : Option Addr) (E : EnvR Y W H σ env) (n : noX env = true) : EnvR (Y.su a cls d) W H σ env := by
  obtain ⟨bs, l, h, dd⟩ := E.ex
  refine ⟨E.st, E.len, bs, l, fun i s x b e1 e2 e3 => ?_, dd⟩
  have q := h i s x b e1 e2 e3
  cases s with
  | x z => exact (noX_at n e1 z rfl).elim
  | u => exact q
  | v p => exact q
  | b p => exact q
  | o ps => exact q
theorem EnvR.unsu {Y : Cy} {W : Wd} {H : Hp} {σ : St} {env : Ev} {a : Addr} {cls : Value} {d : Option Addr} (E : EnvR (Y.su a cls d) W H σ env) (n : noX env = true) : EnvR Y W H σ env := by
  obtain ⟨bs, l, h, dd⟩ := E.ex
  refine ⟨E.st, E.len, bs, l, fun i s x b e1 e2 e3 => ?_, dd⟩
  have q := h i s x b e1 e2 e3
  cases s with
  | x z => exact (noX_at n e1 z rfl).elim
  | u => exact q
  | v p => exact q
  | b p => exact q
  | o ps => exact q
section
variable {X : Cx} {Y : Cy} {x n : Str} {c : Value} {body suite : List Stmt} {b₀ : Stmt} {np pos pos' : Pos} {s t : SX}
theorem gs_try (i : Nat) (h : String) (hK : Y.O.K = X.K) (hN : X.N.Nodup) (hc : Names X x c) (xm : XM Y.O h c) (tk : Takes X Y.Wx) (hs : X.stack = X.env :: X.outer) (hf : X.env.frame = some X.env.locals)
    (hb : ∀ (W : WX) (pn : List (Addr × Obj)) (xe : Value → Shared → Prop), Takes (X.tr pn xe) W → PassesOwn (model X.prog X.w) X.A X.env xe → PSs (X.tr pn xe) body (tS { Y with Wx := W } s))
    (hsu : ∀ (a : Addr) (oe : Obj) (cls : Value) (d : Option Addr) (pn : List (Addr × Obj)), Zc cls d oe → (∃ vs, oe.data = .fields vs) → PSs (X.suite a ((a, oe) :: pn)) (b₀ :: suite) (tS (Y.su a cls d) t))
    (hi : X.N[i]? = some n := by rfl) (hln : X.env.kindOf n = some .local := by rfl) :
    PS X (.Try body [.ExceptHandler (some (.Name x np)) (some n) (b₀ :: suite) pos'] [] [] pos) (tS Y (sTry i s h t)) := by
  refine ps_imp (ps_try_as (tb := fun W => tS { Y with Wx := W } s) (ts := fun a cls d => tS (Y.su a cls d) t) (Wout := Y.Wx) hs hf hN hi hln hc tk hb hsu) fun D σ H ⟨W, env, E, q⟩ => ⟨W, env, E.wish _, ?_⟩
  have q : OP Y D W (sTry i s h t env) := q
  unfold sTry at q
  cases e : s env with
  | nx e' => rw [e] at q; exact fun W' H' σ' l E' => q W' H' σ' l E'.unwish
  | bk e' => rw [e] at q; exact fun W' H' σ' l E' => q W' H' σ' l E'.unwish
  | ct e' => rw [e] at q; exact fun W' H' σ' l E' => q W' H' σ' l E'.unwish
  | rt p => rw [e] at q; exact q
  | rf p => rw [e] at q; exact q
  | bad => rw [e] at q; exact q
  | ex px e' =>
    rw [e] at q
    dsimp only [tryK] at q
    intro W' H' σ' cls d l E' xr
    have E2 : EnvR Y W' H' σ' e' := E'.unwish
    obtain ⟨C, c1, c2, c3⟩ := id xr
    refine ⟨subX px.cls h, by rw [c2, ← hK]; exact xm _ C c1, fun hb a na => ?_, fun hb => ?_⟩
    · rw [if_pos hb] at q
      by_cases nx0 : noX e' = true
      · rw [if_pos nx0] at q
        have E3 : EnvR (Y.su a cls d) W' H' (σ'.set i (some (.ref a))) (e'.set i (.x px)) := (E2.su a cls d nx0).set (b := none) ⟨rfl, rfl, xr⟩ fun _ z => by cases z
        refine ⟨W', _, E3, ?_⟩
        have q' := q.up l
        cases et : t (e'.set i (.x px)) with
        | nx e'' =>
          rw [et] at q'
          dsimp only [unX] at q'
          intro W5 H5 σ5 l5 E5
          by_cases nz : noX (e''.set i .u) = true
          · rw [if_pos nz] at q'
            exact q' W5 H5 _ l5 ((E5.setu (i := i) (x := none)).unsu nz)
          · rw [if_neg nz] at q'; exact False.elim q'
        | bk e'' =>
          rw [et] at q'
          dsimp only [unX] at q'
          intro W5 H5 σ5 l5 E5
          by_cases nz : noX (e''.set i .u) = true
          · rw [if_pos nz] at q'
            exact q' W5 H5 _ l5 ((E5.setu (i := i) (x := none)).unsu nz)
          · rw [if_neg nz] at q'; exact False.elim q'
        | ct e'' =>
          rw [et] at q'
          dsimp only [unX] at q'
          intro W5 H5 σ5 l5 E5
          by_cases nz : noX (e''.set i .u) = true
          · rw [if_pos nz] at q'
            exact q' W5 H5 _ l5 ((E5.setu (i := i) (x := none)).unsu nz)
          · rw [if_neg nz] at q'; exact False.elim q'
        | rt p => rw [et] at q'; exact q'
        | rf p => rw [et] at q'; exact q'
        | ex x' e'' => rw [et] at q'; exact False.elim q'
        | bad => rw [et] at q'; exact False.elim q'
      · rw [if_neg nx0] at q; exact False.elim q
    · rw [if_neg (by rw [hb]; exact Bool.false_ne_true)] at q
      exact q W' H' σ' cls d l E2 xr
/-- a field of the caught error -/
theorem ge_xf (i : Nat) (h fn : String) {a C : Addr} {oe : Obj} {cls : Value} {d : Option Addr} {pn : List (Addr × Obj)} {pos p1 : Pos} {nm : Str} (T : XfC X.K C) (hno : PySem.W.findIn X.K (.ref C) (PySem.Str.ofString fn) = some none) (hcl : Y.O.cl h = some C) (hz : Zc cls d oe) (hf : ∃ vs, oe.data = .fields vs)
    (hN : X.N[i]? = some nm := by rfl) (hv : Vis X.env.scope nm := by first | exact Or.inl rfl | exact Or.inr (Or.inl rfl) | exact Or.inr (Or.inr rfl)) (hd : (nm == ("__debug__" : Str)) = false := by decide) (hcd : (nm == ("__classdict__" : Str)) = false := by decide) (hb : attributeBase (.Name nm p1) (PySem.Str.ofString fn) X.env (eval (.Name nm p1) X.env) = eval (.Name nm p1) X.env := by rfl) :
    PE (X.suite a ((a, oe) :: pn)) (.Attribute (.Name nm p1) (PySem.Str.ofString fn) pos) (tP (Y.su a cls d) (eFld i h fn)) := by
  refine pe_imp (pe_xf T hno hz hf (pe_var (X := X.suite a ((a, oe) :: pn)) hN hv hd hcd) hb) fun σ H Q ⟨W, env, E, r⟩ => ?_
  unfold eFld at r
  cases e : env[i]? with
  | none => rw [e] at r; exact False.elim r
  | some sl =>
    rw [e] at r
    cases sl with
    | x px =>
      obtain ⟨v, b, e1, e2, e3, xr⟩ := E.slot e
      dsimp only at r
      by_cases hh : px.cls = h
      · rw [if_pos hh] at r
        cases el : px.fs.lookup fn with
        | none => rw [el] at r; exact False.elim r
        | some p =>
          rw [el] at r
          obtain ⟨C', c1, c2, c3⟩ := xr
          have hC : C' = C := by
            have c1' : Y.O.cl px.cls = some C' := c1
            rw [hh, hcl] at c1'
            exact (Option.some.inj c1').symm
          subst hC
          rcases c3 with c3 | ⟨dd, fs, d1, d2, d3⟩
          · rw [c3] at el; cases el
          · obtain ⟨vv, l1, l2⟩ := d3 fn p el
            have hdd : H dd = some (.xd fs) := by
              obtain ⟨o, q1, q2⟩ := E.ho dd _ d2
              rw [q1, q2]
            exact ⟨.ref a, by rw [e1, e3]; rfl, rfl, c2, dd, fs, vv, d1, hdd, l1, r.now E.ho vv l2⟩
      · rw [if_neg hh] at r; exact False.elim r
    | _ => exact False.elim r
end
end JP

set_option Elab.async false
set_option linter.all false
set_option maxRecDepth 100000
/-! JP9: short words for what is printed; texts of numbers; comprehensions. -/
namespace JP
open PySem L2
section
variable {X : Cx} {Y : Cy} {a b c e : Expr} {es : List Expr} {f g k : EX} {fa : AX} {pos p : Pos}
theorem ge_add (ha : PE X a (tB Y f)) (hb : PE X b (tB Y g)) : PE X (.BinOp a .Add b pos) (tP Y (eOp pAdd f g)) := by
  obtain ⟨r, ho, hr⟩ := r2s_add (O := Y.O) (X := X)
  exact ge_op ho hr ha hb
theorem ge_mul (ha : PE X a (tB Y f)) (hb : PE X b (tB Y g)) : PE X (.BinOp a .Mult b pos) (tP Y (eOp pMul f g)) := by
  obtain ⟨r, ho, hr⟩ := r2s_mul (O := Y.O) (X := X)
  exact ge_op ho hr ha hb
theorem ge_sub (ha : PE X a (tB Y f)) (hb : PE X b (tB Y g)) : PE X (.BinOp a .Sub b pos) (tP Y (eOp pSub f g)) := ge_op op_sub r2s_sub ha hb
theorem ge_mod (ha : PE X a (tB Y f)) (hb : PE X b (tB Y g)) : PE X (.BinOp a .Mod b pos) (tP Y (eOp pMod f g)) := ge_op op_mod r2s_mod ha hb
theorem ge_div (ha : PE X a (tB Y f)) (hb : PE X b (tB Y g)) : PE X (.BinOp a .FloorDiv b pos) (tP Y (eOp pDiv f g)) := ge_op op_fdivW r2s_div ha hb
theorem ge_pow (ha : PE X a (tB Y f)) (hb : PE X b (tB Y g)) : PE X (.BinOp a .Pow b pos) (tP Y (eOp pPow f g)) := ge_op op_pow r2s_pow ha hb
theorem ge_neg (ha : PE X a (tB Y f)) : PE X (.UnaryOp .USub a pos) (tP Y (eUn pNeg f)) := ge_un un_neg r1s_neg ha
theorem ge_lt (ha : PE X a (tB Y f)) (hb : PE X b (tB Y g)) : PE X (.Compare a [.Lt] [b] pos) (tP Y (eOp pLt f g)) := ge_cmp op_lt r2s_lt ha hb (nomark _)
theorem ge_le (ha : PE X a (tB Y f)) (hb : PE X b (tB Y g)) : PE X (.Compare a [.LtE] [b] pos) (tP Y (eOp pLe f g)) := ge_cmp op_le r2s_le ha hb (nomark _)
theorem ge_gt (ha : PE X a (tB Y f)) (hb : PE X b (tB Y g)) : PE X (.Compare a [.Gt] [b] pos) (tP Y (eOp pGt f g)) := ge_cmp op_gt r2s_gt ha hb (nomark _)
theorem ge_ge (ha : PE X a (tB Y f)) (hb : PE X b (tB Y g)) : PE X (.Compare a [.GtE] [b] pos) (tP Y (eOp pGe f g)) := ge_cmp op_ge r2s_ge ha hb (nomark _)
theorem gt_lt (ha : PE X a (tB Y f)) (hb : PE X b (tB Y g)) : PT X (.Compare a [.Lt] [b] pos) (tT Y (eOp pLt f g)) := gt_cmp op_lt r2s_lt ha hb (nomark _)
theorem gt_le (ha : PE X a (tB Y f)) (hb : PE X b (tB Y g)) : PT X (.Compare a [.LtE] [b] pos) (tT Y (eOp pLe f g)) := gt_cmp op_le r2s_le ha hb (nomark _)
theorem gt_gt (ha : PE X a (tB Y f)) (hb : PE X b (tB Y g)) : PT X (.Compare a [.Gt] [b] pos) (tT Y (eOp pGt f g)) := gt_cmp op_gt r2s_gt ha hb (nomark _)
theorem gt_ge (ha : PE X a (tB Y f)) (hb : PE X b (tB Y g)) : PT X (.Compare a [.GtE] [b] pos) (tT Y (eOp pGe f g)) := gt_cmp op_ge r2s_ge ha hb (nomark _)
theorem ge_lele (ha : PE X a (tB Y f)) (hb : PE X b (tB Y g)) (hc : PE X c (tB Y k)) (hm : lastMarks [.LtE, .LtE] [b, c] = false := by with_unfolding_all rfl) : PE X (.Compare a [.LtE, .LtE] [b, c] pos) (tP Y (eChain pLe pLe f g k)) := ge_chain op_le op_le r2s_le r2s_le ha hb hc hm
theorem gt_lele (ha : PE X a (tB Y f)) (hb : PE X b (tB Y g)) (hc : PE X c (tB Y k)) (hm : lastMarks [.LtE, .LtE] [b, c] = false := by with_unfolding_all rfl) : PT X (.Compare a [.LtE, .LtE] [b, c] pos) (tT Y (eChain pLe pLe f g k)) := gt_chain op_le op_le r2s_le r2s_le ha hb hc hm
theorem ge_lelt (ha : PE X a (tB Y f)) (hb : PE X b (tB Y g)) (hc : PE X c (tB Y k)) (hm : lastMarks [.LtE, .Lt] [b, c] = false := by with_unfolding_all rfl) : PE X (.Compare a [.LtE, .Lt] [b, c] pos) (tP Y (eChain pLe pLt f g k)) := ge_chain op_le op_lt r2s_le r2s_lt ha hb hc hm
theorem gt_lelt (ha : PE X a (tB Y f)) (hb : PE X b (tB Y g)) (hc : PE X c (tB Y k)) (hm : lastMarks [.LtE, .Lt] [b, c] = false := by with_unfolding_all rfl) : PT X (.Compare a [.LtE, .Lt] [b, c] pos) (tT Y (eChain pLe pLt f g k)) := gt_chain op_le op_lt r2s_le r2s_lt ha hb hc hm
theorem ge_eq (hK : Y.O.K = X.K) (hu : X.A.units + 64 < cLine) (ha : PE X a (tB Y f)) (hb : PE X b (tB Y g)) : PE X (.Compare a [.Eq] [b] pos) (tP Y (eOp pEq f g)) := ge_cmp (op_eqD hu) (by rw [← hK]; exact r2s_eq) ha hb (nomark _)
theorem ge_ne (hK : Y.O.K = X.K) (hu : X.A.units + 64 < cLine) (ha : PE X a (tB Y f)) (hb : PE X b (tB Y g)) : PE X (.Compare a [.NotEq] [b] pos) (tP Y (eOp pNe f g)) := ge_cmp (op_neD hu) (by rw [← hK]; exact r2s_ne) ha hb (nomark _)
theorem gt_eq (hK : Y.O.K = X.K) (hu : X.A.units + 64 < cLine) (ha : PE X a (tB Y f)) (hb : PE X b (tB Y g)) : PT X (.Compare a [.Eq] [b] pos) (tT Y (eOp pEq f g)) := gt_cmp (op_eqD hu) (by rw [← hK]; exact r2s_eq) ha hb (nomark _)
theorem gt_ne (hK : Y.O.K = X.K) (hu : X.A.units + 64 < cLine) (ha : PE X a (tB Y f)) (hb : PE X b (tB Y g)) : PT X (.Compare a [.NotEq] [b] pos) (tT Y (eOp pNe f g)) := gt_cmp (op_neD hu) (by rw [← hK]; exact r2s_ne) ha hb (nomark _)
theorem ge_is (ha : PE X a (tB Y f)) (hb : PE X b (tB Y g)) : PE X (.Compare a [.Is] [b] pos) (tP Y (eOp pIs2 f g)) := by
  obtain ⟨r, ho, hr⟩ := r2s_is (O := Y.O) (X := X)
  exact ge_cmp ho hr ha hb (nomark _)
theorem gt_is (ha : PE X a (tB Y f)) (hb : PE X b (tB Y g)) : PT X (.Compare a [.Is] [b] pos) (tT Y (eOp pIs2 f g)) := by
  obtain ⟨r, ho, hr⟩ := r2s_is (O := Y.O) (X := X)
  exact gt_cmp ho hr ha hb (nomark _)
theorem ge_isn (ha : PE X a (tB Y f)) (hb : PE X b (tB Y g)) : PE X (.Compare a [.IsNot] [b] pos) (tP Y (eOp pNot2 f g)) := by
  obtain ⟨r, ho, hr⟩ := r2s_isnot (O := Y.O) (X := X)
  exact ge_cmp ho hr ha hb (nomark _)
theorem gt_isn (ha : PE X a (tB Y f)) (hb : PE X b (tB Y g)) : PT X (.Compare a [.IsNot] [b] pos) (tT Y (eOp pNot2 f g)) := by
  obtain ⟨r, ho, hr⟩ := r2s_isnot (O := Y.O) (X := X)
  exact gt_cmp ho hr ha hb (nomark _)
theorem ge_inS (ha : PE X a (tB Y f)) (hb : PE X b (tB Y g)) (hm : behindInMarks .In b = false := by rfl) : PE X (.Compare a [.In] [b] pos) (tP Y (eOp pInS f g)) := ge_cmp op_in_sign r2s_inS ha hb hm
theorem gt_inS (ha : PE X a (tB Y f)) (hb : PE X b (tB Y g)) (hm : behindInMarks .In b = false := by rfl) : PT X (.Compare a [.In] [b] pos) (tT Y (eOp pInS f g)) := gt_cmp op_in_sign r2s_inS ha hb hm
theorem ge_ninS (ha : PE X a (tB Y f)) (hb : PE X b (tB Y g)) (hm : behindInMarks .NotIn b = false := by rfl) : PE X (.Compare a [.NotIn] [b] pos) (tP Y (eOp pNinS f g)) := ge_cmp op_notIn_sign r2s_ninS ha hb hm
theorem gt_ninS (ha : PE X a (tB Y f)) (hb : PE X b (tB Y g)) (hm : behindInMarks .NotIn b = false := by rfl) : PT X (.Compare a [.NotIn] [b] pos) (tT Y (eOp pNinS f g)) := gt_cmp op_notIn_sign r2s_ninS ha hb hm
theorem ge_len (hK : Y.O.K = X.K) (hm : X.mg "len" = none) (ha : PE X e (tB Y f)) (hg : Gl X "len" := by rfl) (he : starEach [e] X.env = (false, eval e X.env) :: starEach [] X.env := by rfl) (hpl : (backTo pos (starEach [] X.env)).any (·.1) = false := by rfl) : PE X (.Call (.Name "len" p) [e] [] pos) (tP Y (eCB (on1 pLen) (aCons f aNil))) :=
  ge_callB call_len (crs_len hK) hg hm PySem.boot_len (ga_b ha ga_nil he) (by decide) (by decide) he hpl
theorem ge_max2 (hc : X.calm = true) (hm : X.mg "max" = none) (ha : PE X a (tB Y f)) (hb : PE X b (tB Y g)) (hg : Gl X "max" := by rfl) (he : starEach [a, b] X.env = (false, eval a X.env) :: starEach [b] X.env := by rfl) (he2 : starEach [b] X.env = (false, eval b X.env) :: starEach [] X.env := by rfl) (hpl : (backTo pos (starEach [b] X.env)).any (·.1) = false := by rfl) : PE X (.Call (.Name "max" p) [a, b] [] pos) (tP Y (eCB (on2 pMax2) (aCons f (aCons g aNil)))) :=
  ge_callB (call_max2 hc) crs_max2 hg hm (by decide +kernel) (ga_b ha (ga_b hb ga_nil he2) he) (by decide) (by decide) he hpl
theorem ge_min2 (hc : X.calm = true) (hm : X.mg "min" = none) (ha : PE X a (tB Y f)) (hb : PE X b (tB Y g)) (hg : Gl X "min" := by rfl) (he : starEach [a, b] X.env = (false, eval a X.env) :: starEach [b] X.env := by rfl) (he2 : starEach [b] X.env = (false, eval b X.env) :: starEach [] X.env := by rfl) (hpl : (backTo pos (starEach [b] X.env)).any (·.1) = false := by rfl) : PE X (.Call (.Name "min" p) [a, b] [] pos) (tP Y (eCB (on2 pMin2) (aCons f (aCons g aNil)))) :=
  ge_callB (call_min2 hc) crs_min2 hg hm (by decide +kernel) (ga_b ha (ga_b hb ga_nil he2) he) (by decide) (by decide) he hpl
theorem gf_list (hK : Y.O.K = X.K) (hc : X.calm = true) (hm : X.mg "list" = none) (ha : PE X e (tB Y f)) (hg : Gl X "list" := by rfl) (he : starEach [e] X.env = (false, eval e X.env) :: starEach [] X.env := by rfl) (hpl : (backTo pos (starEach [] X.env)).any (·.1) = false := by rfl) : PE X (.Call (.Name "list" p) [e] [] pos) (tF Y (lCB (on1 lOf) (aCons f aNil))) := by
  obtain ⟨r, h1, h2⟩ := crf_list (O := Y.O) (X := X) hK hc
  exact gf_callT h1 h2 hg hm (by decide +kernel) (ga_b ha ga_nil he) (by decide) (by decide) he hpl
/-! ### list + list, list * int -/
def R2F (O : ObS) (r : R2) (h : PV → PV → Option (List PV)) : Prop := ∀ (W : Wd) (H : Hp) (x y : V) (p q : PV) (z : List PV) (Q : VK), Hold W H → RepB O W H p x → RepB O W H q y → h p q = some z → (∀ W' H' a vs, Stp W H W' H' → H a = none → W' a = none → H' a = some (.lst vs) → RepL O W' z vs → Q (.ref a) H') → r x y H Q
theorem t_opF {r : R2} {h : PV → PV → Option (List PV)} (hr : R2F Y.O r h) : ∀ σ H Q, tF Y (lOp h f g) σ H Q → tOp r (tB Y f) (tB Y g) σ H Q := by
  intro σ H Q ⟨W, env, E, k⟩
  refine ⟨W, env, E, (RP.bind E.ho k).mono fun W1 H1 p s1 k1 x rx => ?_⟩
  have E1 := E.step s1
  refine ⟨W1, env, E1, (RP.bind E1.ho k1).mono fun W2 H2 q s2 k2 y ry => ?_⟩
  obtain ⟨z, hz, kz⟩ := RP.ofO k2
  exact hr W2 H2 x y p q z Q (E1.step s2).ho (rx.step s2) ry hz fun W' H' a vs t n w h' rl => kz W' H' t a vs (s1.back E.ho (s2.back E1.ho n)) w h' rl
theorem gf_cat (ha : PE X a (tB Y f)) (hb : PE X b (tB Y g)) : PE X (.BinOp a .Add b pos) (tF Y (lOp lCat f g)) := by
  refine pe_imp (pe_op op_cat ha hb) (t_opF ?_)
  intro W H x y p q z Q h0 rx ry hz k
  cases p with
  | lst l =>
    cases q with
    | lst l' =>
      dsimp only [lCat] at hz
      by_cases c : l.length + l'.length ≤ 1000000
      · rw [if_pos c] at hz
        cases hz
        obtain ⟨a1, vs1, e1, h1, r1⟩ := rx.lst h0
        obtain ⟨a2, vs2, e2, h2, r2⟩ := ry.lst h0
        exact ⟨a1, a2, vs1, vs2, e1, e2, h1, h2, by rw [← r1.len, ← r2.len]; exact size_of c, fun q hq => k W _ q _ (Stp.new0 h0 hq) hq (h0.none hq) upd_same (r1.app r2)⟩
      · rw [if_neg c] at hz; cases hz
    | _ => cases hz
  | _ => cases q <;> cases hz
theorem RepL.repl {O : ObS} {W : Wd} {ps : List PV} {vs : List V} (r : RepL O W ps vs) : ∀ n : Nat, RepL O W (List.replicate n ps).flatten (List.replicate n vs).flatten
  | 0 => by simp; exact RepL.nil
  | n + 1 => by
    rw [List.replicate_succ, List.replicate_succ, List.flatten_cons, List.flatten_cons]
    exact r.app (RepL.repl r n)
theorem gf_rep (ha : PE X a (tB Y f)) (hb : PE X b (tB Y g)) : PE X (.BinOp a .Mult b pos) (tF Y (lOp lRep f g)) := by
  refine pe_imp (pe_op op_rep ha hb) (t_opF ?_)
  intro W H x y p q z Q h0 rx ry hz k
  cases p with
  | lst l =>
    cases q with
    | int n =>
      dsimp only [lRep] at hz
      by_cases c : (0 ≤ n && n ≤ 1000000 && l.length * n.toNat ≤ 1000000) = true
      · rw [if_pos c] at hz
        cases hz
        simp only [Bool.and_eq_true, decide_eq_true_eq] at c
        obtain ⟨a1, vs1, e1, h1, r1⟩ := rx.lst h0
        exact ⟨a1, n, vs1, e1, ry.int, h1, by omega, by omega, by rw [← r1.len]; exact size_of c.2, fun q hq => k W _ q _ (Stp.new0 h0 hq) hq (h0.none hq) upd_same (RepL.repl r1 _)⟩
      · rw [if_neg c] at hz; cases hz
    | _ => cases hz
  | _ => cases q <;> cases hz
/-! ### str(n), int(text), text.index(sign) -/
theorem numL_ok (n : Nat) : okS (numD n) := fun c hc => by
  have := TL.numL_digits n c hc
  omega
theorem log2_of {i : Int} (h0 : 0 ≤ i) (h1 : i < 10 ^ 200) : i.natAbs.log2 < 1920 := by
  by_cases hz : i.natAbs = 0
  · rw [hz]; decide
  · rw [Nat.log2_lt hz]
    have h2 : i.natAbs < 10 ^ 200 := by
      have : (i.natAbs : Int) < 10 ^ 200 := by omega
      exact_mod_cast this
    exact Nat.lt_of_lt_of_le h2 (by decide +kernel)
theorem ge_str1 (hm : X.mg "str" = none) (ha : PE X e (tB Y f)) (hg : Gl X "str" := by rfl) (he : starEach [e] X.env = (false, eval e X.env) :: starEach [] X.env := by rfl) (hpl : (backTo pos (starEach [] X.env)).any (·.1) = false := by rfl) : PE X (.Call (.Name "str" p) [e] [] pos) (tP Y (eCB (on1 pStr) (aCons f aNil))) := by
  refine ge_callT call_str_int ?_ hg hm (by decide +kernel) (ga_b ha ga_nil he) (by decide) (by decide) he hpl
  intro W H ps xs z Q h0 ha hz k
  obtain ⟨p, x, e1, e2, r⟩ := ha.one
  subst e1; subst e2
  cases p with
  | int i =>
    have hz : pStr (.int i) = some z := hz
    dsimp only [pStr] at hz
    by_cases c : (0 ≤ i && i < bigI) = true
    · rw [if_pos c] at hz
      cases hz
      simp only [Bool.and_eq_true, decide_eq_true_eq] at c
      refine ⟨i, by rw [r.int], log2_of c.1 c.2, k W H _ (Stp.refl h0) (Rep.str_iff.mpr ⟨?_, numL_ok _⟩)⟩
      have e : i = ((i.toNat : Nat) : Int) := by omega
      have e2 := TL.tl_num i.toNat
      rw [← e] at e2
      congr 1
      have : (Str.ofString (toString i)).cps.toList = numD i.toNat := e2
      show Str.ofString (toString i) = tx (numD i.toNat)
      unfold tx
      rw [← this]
    · rw [if_neg c] at hz; cases hz
  | _ => cases hz
theorem ge_int1 (hm : X.mg "int" = none) (ha : PE X e (tB Y f)) (hg : Gl X "int" := by rfl) (he : starEach [e] X.env = (false, eval e X.env) :: starEach [] X.env := by rfl) (hpl : (backTo pos (starEach [] X.env)).any (·.1) = false := by rfl) : PE X (.Call (.Name "int" p) [e] [] pos) (tP Y (eCB (on1 pInt) (aCons f aNil))) := by
  refine ge_callT call_int_str ?_ hg hm (by decide +kernel) (ga_b ha ga_nil he) (by decide) (by decide) he hpl
  intro W H ps xs z Q h0 ha hz k
  obtain ⟨p, x, e1, e2, r⟩ := ha.one
  subst e1; subst e2
  cases p with
  | str s =>
    have hz : pInt (.str s) = some z := hz
    dsimp only [pInt] at hz
    by_cases c : (digS s && !s.isEmpty && s.length ≤ 600) = true
    · rw [if_pos c] at hz
      cases hz
      simp only [Bool.and_eq_true, decide_eq_true_eq] at c
      refine ⟨tx s, (valS s : Int), by rw [r.str.1], ?_, by rw [tx_len]; omega, k W H _ (Stp.refl h0) (Rep.int_iff.mpr rfl)⟩
      exact SX.int_S c.1.1 (fun z => by rw [z] at c; simp at c) (by omega)
    · rw [if_neg c] at hz; cases hz
  | _ => cases hz
/-! ### further ones -/
theorem ge_dct0 : PE X (.Dict [] [] pos) (tP Y (eC (.dct []))) := by
  refine pe_imp pe_dnewK fun σ H Q ⟨W, env, E, r⟩ => ?_
  intro d hd
  refine r (putW W d (.dK [])) _ (Stp.new E.ho hd) (.ref d) ?_
  simp only [Rep]
  exact ⟨d, rfl, trivial, _, putW_same, fun _ z => z⟩
theorem idx10 : ∀ c : Nat, c < 10 → Txt.index0 (tx [48, 49, 50, 51, 52, 53, 54, 55, 56, 57]) (tx [48 + c]) = some c := by decide +kernel
theorem ge_idx10 {p1 apos cpos : Pos} {j : Nat} {x : Str} (hc : X.calm = true) (tk : Takes X Y.Wx) (ha : PE X e (tB Y f)) (hx : x = tx [48, 49, 50, 51, 52, 53, 54, 55, 56, 57] := by decide +kernel)
    (hfew : ((backTo cpos (starEach [e] X.env)).all (fun x => !x.1) && (backToKw cpos (keywordEach [] X.env)).all (fun x => x.1.isSome) && decide ([e].length + ([] : List Keyword).length + (if ([] : List Keyword).isEmpty then 0 else 1) < 30)) = true := by rfl)
    (hbase : attributeBase (.Constant (.str x) j p1) "index" X.env (eval (.Constant (.str x) j p1) X.env) = eval (.Constant (.str x) j p1) X.env := by rfl) (hline : (apos.endLine == cpos.line) = true := by rfl) (hs : starEach [e] X.env = (false, eval e X.env) :: starEach [] X.env := by rfl) (hplain : (backTo cpos (starEach [] X.env)).any (·.1) = false := by rfl) :
    PE X (.Call (.Attribute (.Constant (.str x) j p1) "index" apos) [e] [] cpos) (tP Y (eUn pIdx10 f)) := by
  subst hx
  refine pe_imp (pe_bmS PySem.F.plainAttrs_str PySem.F.slot_str_index PySem.F.type_str_index (mt_indexX hc tk) pe_str (pa_cons ha pa_nil hs) hbase hfew hline hs hplain) fun σ H Q ⟨W, env, E, r⟩ => ?_
  refine ⟨rfl, W, env, E, (RP.bind E.ho r).mono fun W1 H1 q s1 k1 x rx => ?_⟩
  obtain ⟨z, hz, kz⟩ := RP.ofO k1
  match q, hz, rx with
  | .str [c], hz, rx =>
    dsimp only [pIdx10] at hz
    by_cases hc : (48 ≤ c && c ≤ 57) = true
    · rw [if_pos hc] at hz
      cases hz
      simp only [Bool.and_eq_true, decide_eq_true_eq] at hc
      have e1 := idx10 (c - 48) (by omega)
      rw [show 48 + (c - 48) = c by omega] at e1
      refine ⟨_, tx [c], rfl, by rw [rx.str.1], fun k hk => ?_, fun hn => ?_⟩
      · have e2 : some (c - 48) = some k := e1.symm.trans hk
        cases e2
        refine kz W1 H1 (Stp.refl (E.step s1).ho) _ (Rep.int_iff.mpr ?_)
        congr 1
        omega
      · have e2 := e1.symm.trans hn
        cases e2
    · rw [if_neg hc] at hz; cases hz
theorem gs_aug {op : Operator} {h : PV → PV → Option PV} {ti : TIp} {x : Str} {pos' : Pos} (i : Nat) (hN : X.N.Nodup) (ho : PIp X op ti) (hr : ∀ (W : Wd) (H : Hp) (x y : V) (p q z : PV) (Q : VK), Hold W H → Rep Y.O W p x → RepB Y.O W H q y → h p q = some z → (∀ W' H' v, Stp W H W' H' → Rep Y.O W' z v → Q v H') → ti x y H Q)
    (he : PE X e (tB Y f)) (hi : X.N[i]? = some x := by rfl) (hx : Loc X.env.scope x := by first | exact Or.inl rfl | exact Or.inr rfl) (hf : X.fn x = true ∨ X.env.scope.names.lookup x = some .local := by first | exact .inl rfl | exact .inr rfl | assumption) :
    PS X (.AugAssign (.Name x pos') op e pos) (tS Y (sAug h i f)) := by
  refine ps_imp (ps_aug hN hi hx he ho hf) fun D σ H ⟨W, env, E, q⟩ => ?_
  have q : OP Y D W (sAug h i f env) := q
  unfold sAug at q
  cases e1 : env[i]? with
  | none => rw [e1] at q; exact False.elim q
  | some s =>
    rw [e1] at q
    cases s with
    | v p =>
      obtain ⟨y, b, e2, _, v, e3, rv⟩ := E.slot e1
      refine ⟨v, by rw [e2, e3], W, env, E, ?_⟩
      refine OP.rp E q fun p2 _ q W' H' t y2 ry => ?_
      cases hz : h p p2 with
      | none => rw [hz] at q; exact False.elim q
      | some z =>
        rw [hz] at q
        refine hr W' H' v y2 p p2 z _ (E.step t).ho (rv.mono t.le) ry hz fun W2 H2 v2 t2 rv2 => ?_
        exact q W2 H2 _ (t.le.trans t2.le) (((E.step t).step t2).setv rv2)
    | _ => exact False.elim q
theorem gs_aug_sub (i : Nat) {x : Str} {pos' : Pos} (hN : X.N.Nodup) (he : PE X e (tB Y f)) (hi : X.N[i]? = some x := by rfl) (hx : Loc X.env.scope x := by first | exact Or.inl rfl | exact Or.inr rfl) (hf : X.fn x = true ∨ X.env.scope.names.lookup x = some .local := by first | exact .inl rfl | exact .inr rfl | assumption) : PS X (.AugAssign (.Name x pos') .Sub e pos) (tS Y (sAug pSub i f)) := by
  refine gs_aug i hN ip_sub ?_ he hi hx hf
  intro W H x y p q z Q h0 rx ry hz k
  cases p with
  | int i =>
    cases q with
    | int j =>
      cases hz
      exact ⟨i, j, Rep.int_iff.mp rx, ry.int, k W H _ (Stp.refl h0) (Rep.int_iff.mpr rfl)⟩
    | _ => cases hz
  | _ => cases q <;> cases hz
end
end JP

set_option Elab.async false
set_option linter.all false
set_option maxRecDepth 100000
/-! JPA: errors of the text as a whole; the end of a law. -/
namespace JP
open PySem L2
section
variable {P : Program} {w : World} {K : PySem.W.Frag} {mg : Str → Option Value} {base : Heap} {qual : Str} {st : Stmt} {f : Addr} {fd : FuncData} {k : Nat} {C : Addr}
/-- the context of an __init__ of an error -/
abbrev CxI (P : Program) (w : World) (K : PySem.W.Frag) (mg : Str → Option Value) (base : Heap) (N : List Str) (qual : Str) (st : Stmt) (f : Addr) (cdv : Value) (A : Around) (outer : List Env) (sh : Shared) (H : Hp) (E : XK) : Cx := (cxOf CX0 P w K mg base N qual (defScope st) f cdv A outer sh H E).nox
theorem init1_ok {fn : Str} {m : V} (F : Fun K "__init__" qual st f fd) (S : FnScope ["self", fn] ["self", fn] (defScope st)) (hT : OexC K C) (hno : PySem.W.findIn K (.ref C) fn = some none)
    (hbody : ∀ (cdv : Value) (A : Around) (outer : List Env) (sh : Shared) (H : Hp) (E : XK), PSs (CxI P w K mg base ["self", fn] qual st f cdv A outer sh H E) (defBody st) (tSeq (tDrop (tVeI K (tCons (tVar 0) (tCons (tC m) tNil)))) (tOst K fn (tVar 0) (tVar 1)))) :
    FnOk P w K mg base CX0 (k + 1) f fd ["self", fn] (spX1 C fn) := by
  refine F.ok S (fun vs H Q E h => by obtain ⟨a, y, rfl, _⟩ := h; rfl) (fun cdv A outer sh H vs Q E hr h => ⟨_, hbody cdv A outer sh H E, ?_⟩)
  obtain ⟨a, y, rfl, ha, k⟩ := h
  exact ⟨.ref a, rfl, a, C, [m], rfl, by simp, hT, ha, y, rfl, .ref a, rfl, a, C, rfl, hT, hno, .inl ⟨ha, fun dx n ne => k dx n ne⟩⟩
theorem init2_ok {fn gn : Str} {m : V} (F : Fun K "__init__" qual st f fd) (S : FnScope ["self", fn, gn] ["self", fn, gn] (defScope st)) (hT : OexC K C) (hno : PySem.W.findIn K (.ref C) fn = some none) (hno2 : PySem.W.findIn K (.ref C) gn = some none)
    (hbody : ∀ (cdv : Value) (A : Around) (outer : List Env) (sh : Shared) (H : Hp) (E : XK), PSs (CxI P w K mg base ["self", fn, gn] qual st f cdv A outer sh H E) (defBody st) (tSeq (tDrop (tVeI K (tCons (tVar 0) (tCons (tC m) tNil)))) (tSeq (tOst K fn (tVar 0) (tVar 1)) (tOst K gn (tVar 0) (tVar 2))))) :
    FnOk P w K mg base CX0 (k + 1) f fd ["self", fn, gn] (spX2 C fn gn) := by
  refine F.ok S (fun vs H Q E h => by obtain ⟨a, y, z, rfl, _⟩ := h; rfl) (fun cdv A outer sh H vs Q E hr h => ⟨_, hbody cdv A outer sh H E, ?_⟩)
  obtain ⟨a, y, z, rfl, ha, k⟩ := h
  refine ⟨.ref a, rfl, a, C, [m], rfl, by simp, hT, ha, y, rfl, .ref a, rfl, a, C, rfl, hT, hno, .inl ⟨ha, fun dx n ne => ?_⟩⟩
  exact ⟨z, rfl, .ref a, rfl, a, C, rfl, hT, hno2, .inr ⟨dx, _, upd_same, by rw [upd_ne ne, upd_same], by simp, k dx n ne⟩⟩
end
/-- an error class with one field -/
structure XE1 (P : Program) (w : World) (K : PySem.W.Frag) (mg : Str → Option Value) (base : Heap) (O : ObS) (c fn : String) (C : Addr) (k : Nat) : Prop where
  made : GXc P w K mg base (PySem.Str.ofString c) C k (spX1 C (PySem.Str.ofString fn))
  cl : O.cl c = some C
  mg : mg (PySem.Str.ofString c) = some (.ref C)
  xf : XfC K C
  n1 : PySem.W.findIn K (.ref C) (PySem.Str.ofString fn) = some none
  xm : XM O c (.ref C)
structure XE2 (P : Program) (w : World) (K : PySem.W.Frag) (mg : Str → Option Value) (base : Heap) (O : ObS) (c fn gn : String) (C : Addr) (k : Nat) : Prop where
  made : GXc P w K mg base (PySem.Str.ofString c) C k (spX2 C (PySem.Str.ofString fn) (PySem.Str.ofString gn))
  cl : O.cl c = some C
  mg : mg (PySem.Str.ofString c) = some (.ref C)
  xf : XfC K C
  n1 : PySem.W.findIn K (.ref C) (PySem.Str.ofString fn) = some none
  n2 : PySem.W.findIn K (.ref C) (PySem.Str.ofString gn) = some none
  xm : XM O c (.ref C)
/-- a class of the text against another one -/
theorem exm_of {K : PySem.W.Frag} {C D : Addr} {b : Bool} (h1 : PySem.W.subIn K (.ref D) (.type "BaseException") = some true) (h2 : PySem.W.hasDictIn K D = true) (h3 : PySem.W.typeIn K (.ref D) = some (.type "type")) (h4 : PySem.W.subIn K (.ref C) (.ref D) = some b) : PySem.W.exmOne K (.ref C) (.ref D) = some b := PySem.W.exm_ref h1 h2 h3 h4
/-! ### the law itself -/
def spLaw (K : PySem.W.Frag) (n : Nat) : Sp := fun vs H Q _ => ∃ (a : Addr) (ns : List Int), vs = [.ref a] ∧ SqL K H a (ns.map V.int) ∧ ns.length ≤ n ∧ ∀ H', Q (.bl true) H'
theorem ints_rep {O : ObS} {W : Wd} : ∀ ns : List Int, RepL O W (ns.map PV.int) (ns.map V.int)
  | [] => RepL.nil
  | n :: ns => RepL.cons (Rep.int_iff.mpr rfl) (ints_rep ns)
theorem law_sp {O : ObS} {n : Nat} {m : List PV → R PV} (hm : ∀ ns : List Int, ns.length ≤ n → m [.scr (ns.map .int)] = .ok (.bl true)) (vs : List V) (H : Hp) (Q : VK) (E : XK) (h : spLaw O.K n vs H Q E) : spP O [false] m vs H Q E := by
  obtain ⟨a, ns, rfl, hs, hl, k⟩ := h
  rcases hs with hs | hs
  · refine ⟨fun b => if b = a then some (fun o => Rdl o (ns.map V.int)) else none, [.scr (ns.map .int)], fun b f e => ?_, ⟨_, [], .ref a, [], rfl, rfl, Rep.scr_iff.mpr ⟨a, ns.map V.int, rfl, .inl ⟨_, if_pos rfl, fun _ z => z⟩, ints_rep ns⟩, rfl, rfl⟩, ?_⟩
    · dsimp only at e
      by_cases hb : b = a
      · subst hb
        rw [if_pos rfl] at e; cases e
        rcases hs with hs | ⟨ob, hs⟩
        · exact ⟨_, hs, .inl rfl⟩
        · exact ⟨_, hs, .inr ⟨ob, rfl⟩⟩
      · rw [if_neg hb] at e; cases e
    · rw [hm ns hl]
      intro W' H' _ x rx
      rw [Rep.bl_iff.mp rx]
      exact k H'
  · refine ⟨fun b => none, [.scr (ns.map .int)], fun b f e => (by cases e), ⟨_, [], .ref a, [], rfl, rfl, Rep.scr_iff.mpr ⟨a, ns.map V.int, rfl, .inr (.inr hs), ints_rep ns⟩, rfl, rfl⟩, ?_⟩
    rw [hm ns hl]
    intro W' H' _ x rx
    rw [Rep.bl_iff.mp rx]
    exact k H'
theorem walk_law {l : PySem.W.OpenLaw} {q : Program} {loose : List Str} {XP : (Str → Option Value) → Heap → Prop} {YP : World → Heap → Prop} {d : DefRec} {K : Params → PySem.W.Frag} {k : Nat} {x : Str} (hn : l.most = some 63) (hdf : d.params.defaults = []) (hr : Room k callerA)
    (hY : ∀ (w : World) (h : Heap), YP w h → (K w.params).In h)
    (F : ∀ (w : World) (mg : Str → Option Value) (fa : Addr) (h : Heap), (K w.params).In h → h.Ns mainGlobals mg → mg d.name = some (.ref fa) →
      ∃ fd : FuncData, (∀ (s : Shared) (u : Value), BindsTo s fd ⟨[u], []⟩ [(x, u)]) ∧ ∀ base : Heap, (K w.params).In base → base.Ns mainGlobals mg → FnOk l.prog w (K w.params) mg base (L2.CX l.prog w) k fa fd [x] (spLaw (K w.params) 63)) :
    PySem.W.WalkO q loose XP YP l.row.toRowW d [] (fun f vs => PySem.call f vs) :=
  L2.walk_of (n := 63) (k := k) (x := x) (CX := fun w => L2.CX l.prog w) (sp := fun w => spLaw (K w.params) 63) hn (by decide) hdf hr hY F (fun _ _ a ns hl _ hS => ⟨a, ns, rfl, hS, hl, fun _ => rfl⟩) fun _ _ _ _ _ z => by
    obtain ⟨_, _, _, _, _, _, _, _, _, _, _, _, z⟩ := z
    exact z
end JP

set_option linter.all false
set_option maxRecDepth 100000
/-! JQ: tools for the plain mathematics (no heap, no program). -/
namespace JP
/-! ### evaluating from the left: only what is next is looked at -/
@[simp] theorem seqO_seqO (o : Ou) (s t : SX) : seqO (seqO o s) t = seqO o (sSeq s t) := by cases o <;> rfl
@[simp] theorem seqO_if (c : Bool) (a b t : SX) (env : Ev) : seqO (ifS (.bl c) a b env) t = ifS (.bl c) (sSeq a t) (sSeq b t) env := by cases c <;> rfl
@[simp] theorem tryK_if (c : Bool) (a b : SX) (env : Ev) (i : Nat) (h : String) (t : SX) : tryK (ifS (.bl c) a b env) i h t = ifS (.bl c) (sTry i a h t) (sTry i b h t) env := by cases c <;> rfl
/-- what a run ends in -/
structure Res (o : Ou) (Q : Ou → Prop) : Prop where
  h : Q o
theorem Res_eq (o : Ou) (Q : Ou → Prop) : Res o Q = Q o := propext ⟨Res.h, Res.mk⟩
@[simp] theorem Res_nx (e : Ev) (Q : Ou → Prop) : Res (.nx e) Q = Q (.nx e) := Res_eq _ _
@[simp] theorem Res_rt (e : PV) (Q : Ou → Prop) : Res (.rt e) Q = Q (.rt e) := Res_eq _ _
@[simp] theorem Res_rf (e : List PV) (Q : Ou → Prop) : Res (.rf e) Q = Q (.rf e) := Res_eq _ _
@[simp] theorem Res_bk (e : Ev) (Q : Ou → Prop) : Res (.bk e) Q = Q (.bk e) := Res_eq _ _
@[simp] theorem Res_ct (e : Ev) (Q : Ou → Prop) : Res (.ct e) Q = Q (.ct e) := Res_eq _ _
@[simp] theorem Res_ex (x : PX) (e : Ev) (Q : Ou → Prop) : Res (.ex x e) Q = Q (.ex x e) := Res_eq _ _
@[simp] theorem Res_bad (Q : Ou → Prop) : Res .bad Q = Q .bad := Res_eq _ _
theorem res_if {c : Bool} {a b : SX} {env : Ev} {Q : Ou → Prop} (h1 : c = true → Res (a env) Q) (h2 : c = false → Res (b env) Q) : Res (ifS (.bl c) a b env) Q := by
  cases c
  · exact h2 rfl
  · exact h1 rfl
/-- behind a loop's body -/
def After (o : Ou) (I B : Ev → Prop) (Q : Ou → Prop) : Prop := match o with
  | .nx e => I e
  | .ct e => I e
  | .bk e => B e
  | o => Q o
@[simp] theorem After_nx (e : Ev) (I B : Ev → Prop) (Q : Ou → Prop) : After (.nx e) I B Q = I e := rfl
@[simp] theorem After_ct (e : Ev) (I B : Ev → Prop) (Q : Ou → Prop) : After (.ct e) I B Q = I e := rfl
@[simp] theorem After_bk (e : Ev) (I B : Ev → Prop) (Q : Ou → Prop) : After (.bk e) I B Q = B e := rfl
@[simp] theorem After_rt (e : PV) (I B : Ev → Prop) (Q : Ou → Prop) : After (.rt e) I B Q = Q (.rt e) := rfl
@[simp] theorem After_rf (e : List PV) (I B : Ev → Prop) (Q : Ou → Prop) : After (.rf e) I B Q = Q (.rf e) := rfl
@[simp] theorem After_ex (x : PX) (e : Ev) (I B : Ev → Prop) (Q : Ou → Prop) : After (.ex x e) I B Q = Q (.ex x e) := rfl
@[simp] theorem After_bad (I B : Ev → Prop) (Q : Ou → Prop) : After .bad I B Q = Q .bad := rfl
theorem forF_res (b : BX) (s t : SX) (I : Nat → Ev → Prop) (Q : Ou → Prop) : ∀ (ps : List PV) (n : Nat) (env : Ev), I n env →
    (∀ k p e, ps[k]? = some p → I (n + k) e → ∃ e1, b p e = .ok e1 ∧ Res (s e1) (fun o => After o (I (n + k + 1)) (fun e => Res (t e) Q) Q)) →
    (∀ e, I (n + ps.length) e → Res (t e) Q) → Res (seqO (forF b s ps env) t) Q
  | [], n, env, h0, _, hk => hk env h0
  | p :: ps, n, env, h0, hs, hk => by
    obtain ⟨e1, hb, h⟩ := hs 0 p env rfl h0
    unfold forF
    rw [hb]
    have go : ∀ e2, I (n + 0 + 1) e2 → Res (seqO (forF b s ps e2) t) Q := fun e2 hi => by
      refine forF_res b s t I Q ps (n + 1) e2 hi (fun k p e hk hi => ?_) (fun e hi => hk e (by rw [show n + (p :: ps).length = n + 1 + ps.length by simp; omega]; exact hi))
      have := hs (k + 1) p e (by simpa using hk) (by rw [show n + (k + 1) = n + 1 + k by omega]; exact hi)
      rw [show n + (k + 1) + 1 = n + 1 + k + 1 by omega] at this
      exact this
    have h := h.h
    revert h
    dsimp only
    cases s e1 with
    | nx e2 => exact go e2
    | ct e2 => exact go e2
    | bk e2 => exact id
    | rt _ => exact fun h => ⟨h⟩
    | rf _ => exact fun h => ⟨h⟩
    | ex _ _ => exact fun h => ⟨h⟩
    | bad => exact fun h => ⟨h⟩
theorem res_for {b : BX} {it : AX} {s t : SX} {env : Ev} {Q : Ou → Prop} (I : Nat → Ev → Prop) {ps : List PV} (hit : it env = .ok ps) (h0 : I 0 env)
    (hs : ∀ k p e, ps[k]? = some p → I k e → ∃ e1, b p e = .ok e1 ∧ Res (s e1) (fun o => After o (I (k + 1)) (fun e => Res (t e) Q) Q))
    (hk : ∀ e, I ps.length e → Res (t e) Q) : Res (seqO (sFor b it s env) t) Q := by
  rw [sFor_app, hit]
  exact forF_res b s t I Q ps 0 env h0 (fun k p e hk hi => by rw [Nat.zero_add] at hi ⊢; exact hs k p e hk hi) (by rw [Nat.zero_add]; exact hk)
theorem seqO_nil (o : Ou) : seqO o sNil = o := by cases o <;> rfl
theorem res_for' {b : BX} {it : AX} {s : SX} {env : Ev} {Q : Ou → Prop} (I : Nat → Ev → Prop) {ps : List PV} (hit : it env = .ok ps) (h0 : I 0 env)
    (hs : ∀ k p e, ps[k]? = some p → I k e → ∃ e1, b p e = .ok e1 ∧ Res (s e1) (fun o => After o (I (k + 1)) (fun e => Q (.nx e)) Q))
    (hk : ∀ e, I ps.length e → Q (.nx e)) : Res (sFor b it s env) Q := by
  rw [← seqO_nil (sFor b it s env)]
  exact res_for I hit h0 (fun k p e h1 h2 => by
    obtain ⟨e1, a, b⟩ := hs k p e h1 h2
    refine ⟨e1, a, ?_⟩
    simp only [sNil_app, Res_nx]
    exact b) fun e h => by simp only [sNil_app, Res_nx]; exact hk e h
theorem whF_res (f : EX) (s t : SX) (I : Nat → Ev → Prop) (Q : Ou → Prop) (hb : ¬ Q .bad) (hs : ∀ m e, I m e → (f e = .ok (.bl false) ∧ Res (t e) Q) ∨ (f e = .ok (.bl true) ∧ Res (s e) (fun o => After o (fun e2 => ∃ m', m' < m ∧ I m' e2) (fun e => Res (t e) Q) Q))) : ∀ (n m : Nat) (env : Ev), m < n → I m env →
    ∃ o, whF f s n env = o ∧ o ≠ .bad ∧ Res (seqO o t) Q
  | 0, m, env, hn, _ => absurd hn (by omega)
  | n + 1, m, env, hn, hi => by
    unfold whF
    rcases hs m env hi with ⟨h, hr⟩ | ⟨h, hr⟩
    · rw [h]; exact ⟨_, rfl, by simp, hr⟩
    · rw [h]
      dsimp only
      have go : ∀ e2, (∃ m', m' < m ∧ I m' e2) → ∃ o, whF f s n e2 = o ∧ o ≠ .bad ∧ Res (seqO o t) Q := fun e2 ⟨m', hm, hi⟩ => whF_res f s t I Q hb hs n m' e2 (by omega) hi
      have hr := hr.h
      revert hr
      cases s env with
      | nx e2 => exact go e2
      | ct e2 => exact go e2
      | bk e2 => exact fun h => ⟨_, rfl, by simp, h⟩
      | rt _ => exact fun h => ⟨_, rfl, by simp, ⟨h⟩⟩
      | rf _ => exact fun h => ⟨_, rfl, by simp, ⟨h⟩⟩
      | ex _ _ => exact fun h => ⟨_, rfl, by simp, ⟨h⟩⟩
      | bad => exact fun h => (hb h).elim
theorem res_wh {f : EX} {s t : SX} {env : Ev} {Q : Ou → Prop} (I : Nat → Ev → Prop) (m : Nat) (h0 : I m env) (hb : ¬ Q .bad)
    (hs : ∀ m e, I m e → (f e = .ok (.bl false) ∧ Res (t e) Q) ∨ (f e = .ok (.bl true) ∧ Res (s e) (fun o => After o (fun e2 => ∃ m', m' < m ∧ I m' e2) (fun e => Res (t e) Q) Q))) :
    Res (seqO (sWh f s env) t) Q := by
  obtain ⟨o, h1, h2, h3⟩ := whF_res f s t I Q hb hs (m + 1) m env (by omega) h0
  rw [sWh_eq _ h1 h2]
  exact h3
theorem m_of {n : Nat} {md : List Bool} {s : SX} {ps : List PV} {p : R PV} (hl : ps.length = md.length) (h : Res (s (env0 n (argS md ps))) (fun o => outP o = p)) : mkP n md s ps = p := by
  unfold mkP
  rw [if_pos hl]
  exact h.h
theorem f_of {n : Nat} {md : List Bool} {s : SX} {ps : List PV} {p : R (List PV)} (hl : ps.length = md.length) (h : Res (s (env0 n (argS md ps))) (fun o => outF o = p)) : mkF n md s ps = p := by
  unfold mkF
  rw [if_pos hl]
  exact h.h
/-- .. where the answer is known by a property -/
theorem m_ex {n : Nat} {md : List Bool} {s : SX} {ps : List PV} {P : R PV → Prop} (hl : ps.length = md.length) (h : Res (s (env0 n (argS md ps))) (fun o => P (outP o))) : P (mkP n md s ps) := by
  unfold mkP
  rw [if_pos hl]
  exact h.h
theorem f_ex {n : Nat} {md : List Bool} {s : SX} {ps : List PV} {P : R (List PV) → Prop} (hl : ps.length = md.length) (h : Res (s (env0 n (argS md ps))) (fun o => P (outF o))) : P (mkF n md s ps) := by
  unfold mkF
  rw [if_pos hl]
  exact h.h
/-- a for over names only: each sign, each number .. -/
theorem rngP_at {lo : Int} {n k : Nat} {p : PV} (h : (rngP lo n)[k]? = some p) : k < n ∧ p = .int (lo + (k : Nat)) := by
  simp only [rngP, List.getElem?_map] at h
  by_cases hk : k < n
  · simp [hk] at h
    exact ⟨hk, h.symm⟩
  · have : (List.range n)[k]? = none := by simp; omega
    rw [this] at h
    cases h
@[simp] theorem rngP_len (lo : Int) (n : Nat) : (rngP lo n).length = n := by simp [rngP]
theorem atN_nat {α : Type} (xs : List α) (k : Nat) : atN xs (k : Int) = xs[k]? := by simp [atN]
@[simp] theorem atN_lit {α : Type} (xs : List α) (n : Nat) : atN xs (no_index (@OfNat.ofNat Int n _)) = xs[n]? := atN_nat xs n
theorem atN_int {α : Type} (xs : List α) {i : Int} (h : 0 ≤ i) : atN xs i = xs[i.toNat]? := by simp [atN, h]
theorem atN_ints (xs : List Int) (k : Nat) : atN (xs.map PV.int) (k : Int) = (xs[k]?).map PV.int := by simp [atN]
theorem smallI_of {a : Int} (h : -(2 ^ 64) < a ∧ a < 2 ^ 64) : smallI a = true := by simp only [smallI, decide_eq_true_eq]; exact h
set_option exponentiation.threshold 5000 in
theorem wideI_of {a : Int} (h : a.natAbs < 10 ^ 200) : wideI a = true := by
  simp only [wideI, decide_eq_true_eq]
  exact Nat.lt_trans h (by decide)
theorem wide_i {a : Int} (h0 : 0 ≤ a) (h : a < 10 ^ 200) : wideI a = true := wideI_of (by omega)
theorem pMul_s {a b : Int} (h : smallI a = true) : pMul (.int a) (.int b) = some (.int (a * b)) := by simp [h]
theorem pMul_r {a b : Int} (h : smallI b = true) : pMul (.int a) (.int b) = some (.int (a * b)) := by simp [h]
theorem pMul_w {a b : Int} (h : wideI a = true) (h2 : wideI b = true) : pMul (.int a) (.int b) = some (.int (a * b)) := by simp [h, h2]
theorem pPow_s {a : Int} {n : Nat} (h : smallI a = true) (hn : (n : Int) ≤ 1000) : pPow (.int a) (.int (n : Int)) = some (.int (a ^ n)) := by simp [h, hn]
theorem pMod_s {a b : Int} (h : 0 < b) : pMod (.int a) (.int b) = some (.int (a % b)) := by simp [h]
theorem pDiv_s {a b : Int} (h : 0 < b) (h2 : wideI b = true) : pDiv (.int a) (.int b) = some (.int (a / b)) := by simp [h, h2]
theorem rn1_nat (n : Nat) (h : n < 2 ^ 62) : iRn1 (.int (n : Int)) = some (rngP 0 n) := by
  have hb : (decide (-(2 ^ 62) ≤ (n : Int)) && decide ((n : Int) < 2 ^ 62)) = true := by
    simp only [Bool.and_eq_true, decide_eq_true_eq]; omega
  simp -implicitDefEqProofs only [iRn1, hb, if_pos, Int.toNat_natCast]
theorem rn1_int {i : Int} (h0 : -(2 ^ 62) ≤ i) (h : i < 2 ^ 62) : iRn1 (.int i) = some (rngP 0 i.toNat) := by
  have hb : (decide (-(2 ^ 62) ≤ i) && decide (i < 2 ^ 62)) = true := by
    simp only [Bool.and_eq_true, decide_eq_true_eq]; omega
  simp -implicitDefEqProofs only [iRn1, hb, if_pos]
end JP

set_option linter.all false
set_option maxRecDepth 100000
namespace JP
theorem digitCh : ∀ d : Nat, d < 10 → (Nat.digitChar d).toNat = 48 + d := by decide
theorem numD_lt {n : Nat} (h : n < 10) : numD n = [48 + n] := by
  unfold numD
  rw [Nat.toDigits_of_lt_base h]
  show [(Nat.digitChar n).toNat] = _
  rw [digitCh n h]
theorem numD_step {n : Nat} (h : 10 ≤ n) : numD n = numD (n / 10) ++ [48 + n % 10] := by
  have hm : n % 10 < 10 := Nat.mod_lt n (by decide)
  have t : Nat.toDigits 10 (n / 10) ++ Nat.toDigits 10 (n % 10) = Nat.toDigits 10 (10 * (n / 10) + n % 10) := Nat.toDigits_append_toDigits (by decide) (by omega) hm
  rw [Nat.div_add_mod] at t
  show (Nat.toDigits 10 n).map Char.toNat = _
  rw [← t, List.map_append, Nat.toDigits_of_lt_base hm]
  show (Nat.toDigits 10 (n / 10)).map Char.toNat ++ [(Nat.digitChar (n % 10)).toNat] = _
  rw [digitCh _ hm] <;> rfl
theorem numD_ne (n : Nat) : numD n ≠ [] := by
  by_cases h : n < 10
  · rw [numD_lt h]; simp
  · rw [numD_step (by omega)]; simp
theorem digS_app (a b : List Nat) : digS (a ++ b) = (digS a && digS b) := by simp [digS]
theorem valS_app1 (a : List Nat) (c : Nat) : valS (a ++ [c]) = valS a * 10 + (c - 48) := by simp [valS]
theorem numD_dig (n : Nat) : digS (numD n) = true := by
  induction n using Nat.strongRecOn with
  | _ n ih =>
    by_cases h : n < 10
    · rw [numD_lt h]; simp [digS]; omega
    · rw [numD_step (by omega), digS_app, ih (n / 10) (by omega)]
      simp [digS]; omega
theorem numD_val (n : Nat) : valS (numD n) = n := by
  induction n using Nat.strongRecOn with
  | _ n ih =>
    by_cases h : n < 10
    · rw [numD_lt h]; simp [valS]
    · rw [numD_step (by omega), valS_app1, ih (n / 10) (by omega)]
      omega
theorem numD_len {n : Nat} : ∀ {k : Nat}, 0 < k → n < 10 ^ k → (numD n).length ≤ k := by
  induction n using Nat.strongRecOn with
  | _ n ih =>
    intro k hk h
    by_cases h1 : n < 10
    · rw [numD_lt h1]; simp; omega
    · rw [numD_step (by omega)]
      match k, hk with
      | 1, _ => omega
      | k + 2, _ =>
        have e : (10 : Nat) ^ (k + 2) = 10 ^ (k + 1) * 10 := Nat.pow_succ ..
        have := ih (n / 10) (by omega) (k := k + 1) (by omega) (by omega)
        simp; omega
theorem numD_head {n : Nat} (h : 0 < n) : (numD n).head? ≠ some 48 := by
  induction n using Nat.strongRecOn with
  | _ n ih =>
    by_cases h1 : n < 10
    · rw [numD_lt h1]; simp; omega
    · rw [numD_step (by omega)]
      have := ih (n / 10) (by omega) (by omega)
      have ne := numD_ne (n / 10)
      cases e : numD (n / 10) with
      | nil => exact (ne e).elim
      | cons c r => rw [e] at this; simpa using this
theorem numD_zero : numD 0 = [48] := numD_lt (by decide)
end JP

set_option linter.all false
set_option maxRecDepth 100000
namespace LK
open JP
def b_is_whole : SX :=
 sRet (eAnd (eUn (pIsi "int") (eBor 0)) (eNot (eUn (pIsi "bool") (eBor 0))))
def m_is_whole : List PV → R PV := mkP 1 [true] b_is_whole
def b_writes_number : SX :=
 sSeq (sFor (bName 1) (lUn iTxt (eBor 0))
 (sIf (eOp pNinS (eBor 1) (eC (.str [48, 49, 50, 51, 52, 53, 54, 55, 56, 57])))
 (sRet (eC (.bl false)))
 (sNil)))
 (sRet (eAnd (eOp pNe (eBor 0) (eC (.str []))) (eOr (eOp pNe (eOp pIx (eBor 0) (eC (.int 0))) (eC (.str [48]))) (eOp pEq (eBor 0) (eC (.str [48]))))))
def m_writes_number : List PV → R PV := mkP 2 [false] b_writes_number
def b_show_number : SX :=
 sRet (eCB (on1 pStr) (aCons (eBor 0) aNil))
def m_show_number : List PV → R PV := mkP 1 [false] b_show_number
def b_read_number : SX :=
 sSeq (sIf (eOr (eNot (eUn (pIsi "str") (eBor 0))) (eOr (eOp pGt (eCB (on1 pLen) (aCons (eBor 0) aNil)) (eC (.int 60))) (eNot (eCall m_writes_number (aCons (eVar 0) (aNil))))))
 (sRaise "NoText" ["row"] (aCons (eC (.int 0)) (aNil)))
 (sNil))
 (sRet (eCB (on1 pInt) (aCons (eBor 0) aNil)))
def m_read_number : List PV → R PV := mkP 1 [false] b_read_number
def b_law_numbers : SX :=
 sSeq (sAsg 3 (eCB (on2 pMax2) (aCons (eBor 0) (aCons (eOp pSub (eUn pNeg (eC (.int 1))) (eBor 0)) aNil))))
 (sSeq (sAsg 4 (eVar 3))
 (sSeq (sOwn 5 (aNil))
 (sSeq (sFor (bName 6) (lUn iRn1 (eCB (on1 pLen) (aCons (eBor 2) aNil)))
 (sIf (eAnd (eOp pGe (eBor 3) (eOp pPow (eC (.int 10)) (eC (.int 18)))) (eOp pGt (eBor 4) (eC (.int 0))))
 (sSeq (sApp 5 (eOp pMod (eBor 4) (eOp pIx (eBor 2) (eBor 6))))
 (sAsg 4 (eOp pDiv (eBor 4) (eOp pIx (eBor 2) (eBor 6)))))
 (sSeq (sAsg 7 (eOp pMod (eOp pPow (eOp pAdd (eOp pAdd (eOp pMod (eBor 3) (eC (.int 2147483629))) (eOp pMul (eC (.int 7919)) (eBor 1))) (eC (.int 1))) (eC (.int 3))) (eC (.int 2147483647))))
 (sSeq (sAsg 7 (eOp pMod (eOp pMul (eOp pAdd (eBor 7) (eOp pMul (eC (.int 104729)) (eOp pAdd (eBor 6) (eC (.int 1))))) (eOp pAdd (eBor 6) (eC (.int 3)))) (eC (.int 2147483629))))
 (sSeq (sAsg 7 (eOp pMod (eOp pMul (eOp pMod (eOp pPow (eBor 7) (eC (.int 5))) (eC (.int 2147483647))) (eC (.int 48271))) (eC (.int 2147483629))))
 (sApp 5 (eOp pMod (eOp pDiv (eBor 7) (eC (.int 16))) (eOp pIx (eBor 2) (eBor 6)))))))))
 (sRetO 5))))
def m_law_numbers : List PV → R (List PV) := mkF 8 [false, false, true] b_law_numbers
def b_law_drawn : SX :=
 sSeq (sAsg 3 (eC (.int 10)))
 (sSeq (sAsg 4 (eVar 0))
 (sSeq (sFor (bName 5) (lUn iRn1 (eVar 2))
 (sAsg 3 (eOp pMul (eBor 3) (eC (.int 10)))))
 (sSeq (sFor (bName 5) (lUn iRn1 (eVar 1))
 (sAsg 4 (eOp pMod (eOp pMul (eBor 4) (eOp pAdd (eBor 0) (eBor 5))) (eOp pPow (eC (.int 10)) (eC (.int 60))))))
 (sRet (eOp pMod (eBor 4) (eBor 3))))))
def m_law_drawn : List PV → R PV := mkP 6 [false, false, false] b_law_drawn
noncomputable def b_law_figures : SX :=
 sSeq (sAsg 1 (eC (.str [])))
 (sSeq (sWh (eOr (eOp pGt (eBor 0) (eC (.int 0))) (eOp pEq (eBor 1) (eC (.str []))))
 (sSeq (sAsg 1 (eOp pAdd (eOp pIx (eC (.str [48, 49, 50, 51, 52, 53, 54, 55, 56, 57])) (eOp pMod (eBor 0) (eC (.int 10)))) (eBor 1)))
 (sAsg 0 (eOp pDiv (eBor 0) (eC (.int 10))))))
 (sRet (eVar 1)))
noncomputable def m_law_figures : List PV → R PV := mkP 2 [false] b_law_figures
def b_law_bent : SX :=
 sSeq (sAsg 4 (eOp pMod (eBor 2) (eOp pAdd (eCB (on1 pLen) (aCons (eBor 0) aNil)) (eC (.int 1)))))
 (sSeq (sIf (eOp pEq (eBor 1) (eC (.int 0)))
 (sRet (eOp pAdd (eOp pAdd (eSlS (eBor 0) (oNo) (oSome (eVar 4))) (eBor 3)) (eSlS (eBor 0) (oSome (eVar 4)) (oNo))))
 (sNil))
 (sSeq (sIf (eOp pEq (eBor 1) (eC (.int 1)))
 (sRet (eOp pAdd (eSlS (eBor 0) (oNo) (oSome (eVar 4))) (eSlS (eBor 0) (oSome (eOp pAdd (eBor 4) (eC (.int 1)))) (oNo))))
 (sNil))
 (sSeq (sIf (eOp pEq (eBor 1) (eC (.int 2)))
 (sRet (eOp pAdd (eOp pAdd (eSlS (eBor 0) (oNo) (oSome (eVar 4))) (eBor 3)) (eSlS (eBor 0) (oSome (eOp pAdd (eBor 4) (eC (.int 1)))) (oNo))))
 (sNil))
 (sRet (eVar 0)))))
def m_law_bent : List PV → R PV := mkP 5 [false, false, false, false] b_law_bent
def b_law_due : SX :=
 sSeq (sIf (eOr (eOp pEq (eBor 0) (eC (.str []))) (eOr (eOp pGt (eCB (on1 pLen) (aCons (eBor 0) aNil)) (eC (.int 60))) (eAnd (eOp pEq (eOp pIx (eBor 0) (eC (.int 0))) (eC (.str [48]))) (eOp pGt (eCB (on1 pLen) (aCons (eBor 0) aNil)) (eC (.int 1))))))
 (sRet (eC .non))
 (sNil))
 (sSeq (sAsg 1 (eC (.int 0)))
 (sSeq (sFor (bName 2) (lUn iTxt (eBor 0))
 (sSeq (sIf (eOp pNinS (eBor 2) (eC (.str [48, 49, 50, 51, 52, 53, 54, 55, 56, 57])))
 (sRet (eC .non))
 (sNil))
 (sAsg 1 (eOp pAdd (eOp pMul (eBor 1) (eC (.int 10))) (eUn pIdx10 (eBor 2))))))
 (sRet (eVar 1))))
def m_law_due : List PV → R PV := mkP 3 [false] b_law_due
def b_law_read : SX :=
 sSeq (sAsg 1 (eTup (aCons (eC (.str [114, 101, 97, 100])) (aCons (eC (.int 0)) (aNil)))))
 (sSeq (sTry 2 (sAsg 1 (eTup (aCons (eC (.str [114, 101, 97, 100])) (aCons (eCall m_read_number (aCons (eVar 0) (aNil))) (aNil))))) "NoText" (sAsg 1 (eTup (aCons (eC (.str [110, 111])) (aCons (eFld 2 "NoText" "row") (aNil))))))
 (sRet (eVar 1)))
def m_law_read : List PV → R PV := mkP 3 [false] b_law_read
def b_law_right : SX :=
 sSeq (sAsg 1 (eCall m_law_due (aCons (eVar 0) (aNil))))
 (sSeq (sUnp (bTup2 2 3) (eCall m_law_read (aCons (eVar 0) (aNil))))
 (sSeq (sIf (eOr (eUn (pIsi "bool") (eBor 3)) (eNot (eUn (pIsi "int") (eBor 3))))
 (sRet (eC (.bl false)))
 (sNil))
 (sSeq (sIf (eOp pIs2 (eBor 1) (eC .non))
 (sRet (eAnd (eOp pEq (eBor 2) (eC (.str [110, 111]))) (eOp pEq (eBor 3) (eC (.int 0)))))
 (sNil))
 (sRet (eAnd (eOp pEq (eBor 2) (eC (.str [114, 101, 97, 100]))) (eOp pEq (eBor 3) (eBor 1)))))))
def m_law_right : List PV → R PV := mkP 4 [false] b_law_right
noncomputable def b_law : SX :=
 sSeq (sAsg 1 (eC (.str [48, 49, 50, 51, 52, 53, 54, 55, 56, 57, 32, 33, 34, 35, 36, 38, 39, 40, 41, 42, 43, 44, 45, 46, 47, 58, 59, 60, 61, 62, 63, 64, 65, 66, 67, 68, 69, 70, 71, 72, 73, 74, 75, 76, 77, 78, 79, 80, 81, 82, 83, 84, 85, 86, 87, 88, 89, 90, 91, 92, 93, 94, 95, 96, 97, 98, 99, 100, 101, 102, 103, 104, 105, 106, 107, 108, 109, 110, 111, 112, 113, 114, 115, 116, 117, 118, 119, 120, 121, 122, 123, 124, 125, 126, 9, 10])))
 (sSeq (sFor (bTup2 2 3) (lUn iEnL (eFrz (lOp lCat (eFrz (aCons (eC (.int 0)) (aNil))) (eFrz (lSl (eBor 0) (oNo) (oSome (eC (.int 39))))))))
 (sSeq (sAsg 4 (eFrz (lCall m_law_numbers (aCons (eVar 3) (aCons (eOp pAdd (eC (.int 100)) (eBor 2)) (aCons (eFrz (aCons (eOp pPow (eC (.int 10)) (eC (.int 60))) (aCons (eC (.int 7)) (aCons (eC (.int 60)) (aCons (eC (.int 5)) (aCons (eC (.int 62)) (aCons (eC (.int 2)) (aCons (eC (.int 96)) (aCons (eC (.int 10)) (aCons (eC (.int 14)) (aNil))))))))))) (aNil)))))))
 (sSeq (sAsg 5 (eCall m_law_drawn (aCons (eOp pIx (eBor 4) (eC (.int 0))) (aCons (eOp pIx (eBor 4) (eC (.int 1))) (aCons (eOp pIx (eBor 4) (eC (.int 2))) (aNil))))))
 (sSeq (sAsg 6 (eCall m_law_figures (aCons (eVar 5) (aNil))))
 (sSeq (sIf (eOr (eOp pNe (eCall m_show_number (aCons (eVar 5) (aNil))) (eBor 6)) (eNot (eUn (pIsi "str") (eCall m_show_number (aCons (eVar 5) (aNil))))))
 (sRet (eC (.bl false)))
 (sNil))
 (sSeq (sIf (eOr (eOp pNot2 (eCall m_is_whole (aCons (eBor 5) (aNil))) (eC (.bl true))) (eOp pNot2 (eCall m_is_whole (aCons (eOp pSub (eC (.int 0)) (eBor 5)) (aNil))) (eC (.bl true))))
 (sRet (eC (.bl false)))
 (sNil))
 (sSeq (sAsg 7 (eOp pIx (eFrz (aCons (eOp pIx (eBor 1) (eOp pIx (eBor 4) (eC (.int 6)))) (aCons (eOp pIx (eBor 1) (eOp pIx (eBor 4) (eC (.int 7)))) (aNil)))) (eOp pIx (eBor 4) (eC (.int 5)))))
 (sSeq (sAsg 8 (eCall m_law_bent (aCons (eVar 6) (aCons (eOp pIx (eBor 4) (eC (.int 3))) (aCons (eOp pIx (eBor 4) (eC (.int 4))) (aCons (eVar 7) (aNil)))))))
 (sSeq (sIf (eOr (eNot (eCall m_law_right (aCons (eVar 6) (aNil)))) (eOr (eNot (eCall m_law_right (aCons (eVar 8) (aNil)))) (eNot (eCall m_law_right (aCons (eVar 8) (aNil))))))
 (sRet (eC (.bl false)))
 (sNil))
 (sSeq (sAsg 9 (eFrz (aCons (eC .non) (aCons (eC (.bl true)) (aCons (eC (.bl false)) (aCons (eVar 5) (aCons (eOp pSub (eC (.int 0)) (eBor 5)) (aCons (eFrz (aCons (eVar 6) (aNil))) (aCons (eTup (aCons (eVar 6) (aNil))) (aCons (eC (.dct [])) (aCons (eFrz (aNil)) (aCons (eTup (aNil)) (aCons (eOp pAdd (eBor 6) (eC (.str [10]))) (aNil))))))))))))))
 (sSeq (sAsg 9 (eFrz (lOp lCat (eBor 9) (eFrz (aCons (eC (.str [])) (aCons (eOp pAdd (eC (.str [32])) (eBor 6)) (aCons (eOp pAdd (eC (.str [48])) (eBor 6)) (aNil))))))))
 (sSeq (sIf (eOp pNe (eCall m_law_read (aCons (eOp pIx (eBor 9) (eOp pIx (eBor 4) (eC (.int 8)))) (aNil))) (eTup (aCons (eC (.str [110, 111])) (aCons (eC (.int 0)) (aNil)))))
 (sRet (eC (.bl false)))
 (sNil))
 (sFor (bName 10) (lUn iSeq (eQ 9))
 (sSeq (sAsg 11 (eAnd (eUn (pIsi "int") (eBor 10)) (eNot (eUn (pIsi "bool") (eBor 10)))))
 (sIf (eOr (eAnd (eVar 11) (eOp pNot2 (eCall m_is_whole (aCons (eBor 10) (aNil))) (eC (.bl true)))) (eAnd (eNot (eVar 11)) (eOp pNot2 (eCall m_is_whole (aCons (eBor 10) (aNil))) (eC (.bl false)))))
 (sRet (eC (.bl false)))
 (sNil))))))))))))))))
 (sRet (eC (.bl true))))
noncomputable def m_law : List PV → R PV := mkP 12 [false] b_law
end LK

set_option linter.all false
set_option maxRecDepth 100000
namespace LK
open JP
def isI : PV → Bool
  | .int _ => true
  | _ => false
theorem is_whole_eq (p : PV) (h : tyP p = true) : m_is_whole [p] = .ok (.bl (isI p)) := by
  refine m_of rfl ?_
  unfold b_is_whole
  cases p <;> simp [isI] at h ⊢
theorem fig_mem (c : Nat) : decide (c ∈ [48, 49, 50, 51, 52, 53, 54, 55, 56, 57]) = (decide (48 ≤ c) && decide (c ≤ 57)) := by
  rw [Bool.eq_iff_iff]
  simp
  omega
theorem str_at {s : List Nat} {k : Nat} {p : PV} (h : (s.map fun c => PV.str [c])[k]? = some p) : ∃ c, s[k]? = some c ∧ p = .str [c] := by
  simp only [List.getElem?_map] at h
  cases e : s[k]? with
  | none => rw [e] at h; cases h
  | some c => rw [e] at h; exact ⟨c, rfl, by simpa using h.symm⟩
theorem dig_all {s : List Nat} (h : ∀ (k c : Nat), s[k]? = some c → (decide (48 ≤ c) && decide (c ≤ 57)) = true) : digS s = true := by
  simp only [digS, List.all_eq_true]
  intro c hc
  obtain ⟨k, hk⟩ := List.mem_iff_getElem?.mp hc
  exact h k c hk
theorem dig_not {s : List Nat} {k c : Nat} (h : s[k]? = some c) (hc : (decide (48 ≤ c) && decide (c ≤ 57)) = false) : digS s = false := by
  simp only [digS, List.all_eq_false]
  exact ⟨c, List.mem_iff_getElem?.mpr ⟨k, h⟩, by simp [hc]⟩
def wrN (s : List Nat) : Bool := digS s && !s.isEmpty && (s.head? != some 48 || s == [48])
theorem writes_eq (s : List Nat) (h : s.length ≤ 1000000) : m_writes_number [.str s] = .ok (.bl (wrN s)) := by
  refine m_of rfl ?_
  unfold b_writes_number
  simp -implicitDefEqProofs
  refine res_for (fun k e => ∃ x, e = [.v (.str s), x] ∧ ∀ j c, j < k → s[j]? = some c → (decide (48 ≤ c) && decide (c ≤ 57)) = true) (ps := s.map fun c => .str [c]) (by simp) ⟨_, rfl, fun j c hj => absurd hj (by omega)⟩ ?_ ?_
  · rintro k p e hk ⟨x, rfl, ih⟩
    obtain ⟨c, hc, rfl⟩ := str_at hk
    refine ⟨_, rfl, ?_⟩
    simp -implicitDefEqProofs only [sIf_app, eOp_app, eBor_app, bName_app, List.set_cons_succ, List.set_cons_zero, List.getElem?_cons_succ, List.getElem?_cons_zero, R.bind_ok, pNinS, fig_mem, ofO_some, thenO_ok, eC_app]
    refine res_if (fun h => ?_) (fun h => ?_)
    · have : digS s = false := dig_not hc (by rw [Bool.not_eq_true'] at h; exact h)
      simp [wrN, this]
    · simp only [sNil_app, Res_nx, After_nx]
      refine ⟨_, rfl, fun j c' hj hc' => ?_⟩
      by_cases e : j = k
      · subst e
        rw [hc] at hc'
        cases hc'
        rw [Bool.not_eq_false'] at h
        exact h
      · exact ih j c' (by omega) hc'
  · rintro e ⟨x, rfl, hd⟩
    have hd : digS s = true := dig_all fun k c hk => hd k c (by
      have := (List.getElem?_eq_some_iff.mp hk).1
      simpa using this) hk
    cases s with
    | nil => simp [wrN]
    | cons c r =>
      have hr : r.length ≤ 999999 := by simp at h; omega
      simp [wrN, hd, atN, hr]
      rfl
theorem show_eq (i : Int) (h0 : 0 ≤ i) (h1 : i < bigI) : m_show_number [.int i] = .ok (.str (numD i.toNat)) := by
  refine m_of rfl ?_
  unfold b_show_number
  simp [h0, h1]
def noT : PX := ⟨"NoText", [("row", .int 0)]⟩
theorem read_str (s : List Nat) (h : s.length ≤ 1000000) : m_read_number [.str s] = if s.length ≤ 60 ∧ wrN s = true then .ok (.int (valS s)) else .ex noT := by
  have hw := writes_eq s h
  refine m_of rfl ?_
  unfold b_read_number
  by_cases hl : s.length ≤ 60
  · have h6 : ¬ (60 : Int) < s.length := by omega
    cases hv : wrN s with
    | false =>
      simp [hw, hv, h6, h, noT]
    | true =>
      have hd : digS s = true := by simp [wrN] at hv; exact hv.1.1
      have hn : s ≠ [] := by simp [wrN] at hv; exact hv.1.2
      have : s.length ≤ 600 := by omega
      simp [h6, hv, hd, hn, this, hl, hw, h]
  · have : (60 : Int) < s.length := by omega
    simp [this, hl, noT, hw, h]
theorem read_odd (p : PV) (h : tyP p = true) (hs : ∀ s, p ≠ .str s) : m_read_number [p] = .ex noT := by
  refine m_of rfl ?_
  unfold b_read_number
  cases p <;> simp [noT] at h hs ⊢
end LK

set_option linter.all false
set_option maxRecDepth 100000
namespace LK
open JP
def nmBody : SX := (sIf (eAnd (eOp pGe (eBor 3) (eOp pPow (eC (.int 10)) (eC (.int 18)))) (eOp pGt (eBor 4) (eC (.int 0))))
 (sSeq (sApp 5 (eOp pMod (eBor 4) (eOp pIx (eBor 2) (eBor 6))))
 (sAsg 4 (eOp pDiv (eBor 4) (eOp pIx (eBor 2) (eBor 6)))))
 (sSeq (sAsg 7 (eOp pMod (eOp pPow (eOp pAdd (eOp pAdd (eOp pMod (eBor 3) (eC (.int 2147483629))) (eOp pMul (eC (.int 7919)) (eBor 1))) (eC (.int 1))) (eC (.int 3))) (eC (.int 2147483647))))
 (sSeq (sAsg 7 (eOp pMod (eOp pMul (eOp pAdd (eBor 7) (eOp pMul (eC (.int 104729)) (eOp pAdd (eBor 6) (eC (.int 1))))) (eOp pAdd (eBor 6) (eC (.int 3)))) (eC (.int 2147483629))))
 (sSeq (sAsg 7 (eOp pMod (eOp pMul (eOp pMod (eOp pPow (eBor 7) (eC (.int 5))) (eC (.int 2147483647))) (eC (.int 48271))) (eC (.int 2147483629))))
 (sApp 5 (eOp pMod (eOp pDiv (eBor 7) (eC (.int 16))) (eOp pIx (eBor 2) (eBor 6))))))))
theorem wide16 : wideI 16 = true := wideI_of (by decide)
theorem numbers_step (c salt number left : Int) (sizes : List Int) (found : List PV) (k : Nat) (z : Int) (x7 : Sl) (hk : sizes[k]? = some z) (hz : 0 < z) (hzw : wideI z = true) (hs : 0 ≤ salt ∧ salt ≤ 1000000) (hkk : k < 1000000) (hl : 0 ≤ left) (hf : found.length < 1000000) :
    ∃ d left' x7', 0 ≤ d ∧ d < z ∧ 0 ≤ left' ∧ nmBody [.v (.int c), .v (.int salt), .b (.lst (sizes.map .int)), .v (.int number), .v (.int left), .o found, .v (.int (k : Int)), x7] = .nx [.v (.int c), .v (.int salt), .b (.lst (sizes.map .int)), .v (.int number), .v (.int left'), .o (found ++ [.int d]), .v (.int (k : Int)), x7'] := by
  have ix : pIx (.lst (sizes.map .int)) (.int (k : Int)) = some (.int z) := by
    simp -implicitDefEqProofs only [pIx, atN_ints, hk, Option.map_some]
  have sm10 : smallI 10 = true := by decide
  have e18 : pPow (.int 10) (.int 18) = some (.int (10 ^ 18)) := by simp [sm10]
  by_cases hc : (10 ^ 18 ≤ number) ∧ 0 < left
  · refine ⟨left % z, left / z, x7, Int.emod_nonneg _ (by omega), Int.emod_lt_of_pos _ hz, Int.ediv_nonneg hl (by omega), ?_⟩
    unfold nmBody
    have ct : (decide (10 ^ 18 ≤ number) && decide (0 < left)) = true := by simp -implicitDefEqProofs only [hc, decide_true, Bool.and_self]
    have qd : pDiv (.int left) (.int z) = some (.int (left / z)) := by simp [hz, hzw]
    simp -implicitDefEqProofs only [sIf_app, eAnd_app, eOp_app, eBor_app, eC_app, List.getElem?_cons_succ, List.getElem?_cons_zero, R.bind_ok, e18, ofO_some, pGe, pGt, thenO_ok, andK_b, ct, ifS_t, qd, sSeq_app, sApp_app, sAsg_app, ix, pMod_s hz, List.set_cons_succ, List.set_cons_zero, hf, if_pos, seqO_nx]
  · let b1 := number % 2147483629 + 7919 * salt + 1
    have hb1 : smallI b1 = true := by
      apply smallI_of
      have h1 := Int.emod_nonneg number (b := 2147483629) (by omega)
      have h2 := Int.emod_lt_of_pos number (b := 2147483629) (by omega)
      show -(2 ^ 64) < number % 2147483629 + 7919 * salt + 1 ∧ number % 2147483629 + 7919 * salt + 1 < 2 ^ 64
      omega
    let o1 := b1 ^ 3 % 2147483647
    have ho1 : 0 ≤ o1 ∧ o1 < 2147483647 := ⟨Int.emod_nonneg _ (by omega), Int.emod_lt_of_pos _ (by omega)⟩
    let m1 := o1 + 104729 * ((k : Int) + 1)
    have hm1 : smallI m1 = true := by
      apply smallI_of
      show -(2 ^ 64) < o1 + 104729 * ((k : Int) + 1) ∧ o1 + 104729 * ((k : Int) + 1) < 2 ^ 64
      omega
    let o2 := m1 * ((k : Int) + 3) % 2147483629
    have ho2 : 0 ≤ o2 ∧ o2 < 2147483629 := ⟨Int.emod_nonneg _ (by omega), Int.emod_lt_of_pos _ (by omega)⟩
    have hs2 : smallI o2 = true := smallI_of (by omega)
    let o3 := o2 ^ 5 % 2147483647
    have ho3 : 0 ≤ o3 ∧ o3 < 2147483647 := ⟨Int.emod_nonneg _ (by omega), Int.emod_lt_of_pos _ (by omega)⟩
    have hs3 : smallI o3 = true := smallI_of (by omega)
    let o4 := o3 * 48271 % 2147483629
    have s7919 : smallI 7919 = true := by decide
    have s104729 : smallI 104729 = true := by decide
    refine ⟨o4 / 16 % z, left, .v (.int o4), Int.emod_nonneg _ (by omega), Int.emod_lt_of_pos _ hz, hl, ?_⟩
    have cf : (decide (10 ^ 18 ≤ number) && decide (0 < left)) = false := by
      simp -implicitDefEqProofs only [Bool.and_eq_false_iff, decide_eq_false_iff_not]
      by_cases h : 10 ^ 18 ≤ number
      · right; exact fun h2 => hc ⟨h, h2⟩
      · left; exact h
    have q1 : pPow (.int b1) (.int 3) = some (.int (b1 ^ 3)) := pPow_s (n := 3) hb1 (by omega)
    have q2 : pPow (.int o2) (.int 5) = some (.int (o2 ^ 5)) := pPow_s (n := 5) hs2 (by omega)
    have q3 : pMul (.int m1) (.int ((k : Int) + 3)) = some (.int (m1 * ((k : Int) + 3))) := pMul_s hm1
    have q4 : pMul (.int o3) (.int 48271) = some (.int (o3 * 48271)) := pMul_s hs3
    have q5 : pMul (.int 7919) (.int salt) = some (.int (7919 * salt)) := pMul_s s7919
    have q6 : pMul (.int 104729) (.int ((k : Int) + 1)) = some (.int (104729 * ((k : Int) + 1))) := pMul_s s104729
    have q7 : pDiv (.int o4) (.int 16) = some (.int (o4 / 16)) := by simp [wide16]
    have r1 : pMod (.int number) (.int 2147483629) = some (.int (number % 2147483629)) := pMod_s (by omega)
    have r2 : pMod (.int (b1 ^ 3)) (.int 2147483647) = some (.int o1) := pMod_s (by omega)
    have r3 : pMod (.int (m1 * ((k : Int) + 3))) (.int 2147483629) = some (.int o2) := pMod_s (by omega)
    have r4 : pMod (.int (o2 ^ 5)) (.int 2147483647) = some (.int o3) := pMod_s (by omega)
    have r5 : pMod (.int (o3 * 48271)) (.int 2147483629) = some (.int o4) := pMod_s (by omega)
    have t1 : pAdd (.int (number % 2147483629 + 7919 * salt)) (.int 1) = some (.int b1) := rfl
    have t2 : pAdd (.int o1) (.int (104729 * ((k : Int) + 1))) = some (.int m1) := rfl
    have t3 : pAdd (.int (number % 2147483629)) (.int (7919 * salt)) = some (.int (number % 2147483629 + 7919 * salt)) := rfl
    have t4 : pAdd (.int (k : Int)) (.int 1) = some (.int ((k : Int) + 1)) := rfl
    have t5 : pAdd (.int (k : Int)) (.int 3) = some (.int ((k : Int) + 3)) := rfl
    unfold nmBody
    simp -implicitDefEqProofs only [sIf_app, eAnd_app, eOp_app, eBor_app, eC_app, List.getElem?_cons_succ, List.getElem?_cons_zero, R.bind_ok, e18, ofO_some, pGe, pGt, thenO_ok, andK_b, cf, ifS_f, sSeq_app, sApp_app, sAsg_app, ix, pMod_s hz, List.set_cons_succ, List.set_cons_zero, hf, if_pos, seqO_nx, q1, q2, q3, q4, q5, q6, q7, r1, r2, r3, r4, r5, t1, t2, t3, t4, t5]
theorem numbers_loop (c salt number : Int) (sizes : List Int) (hs : 0 ≤ salt ∧ salt ≤ 1000000) (hw : ∀ z ∈ sizes, 0 < z ∧ wideI z = true) (hn : sizes.length < 1000000) : ∀ (ks : List Nat) (found : List PV) (left : Int) (x6 x7 : Sl), (∀ k ∈ ks, k < sizes.length) → 0 ≤ left → found.length + ks.length ≤ 1000000 →
    ∃ (ds : List Int) (left' : Int) (x6' x7' : Sl), ds.length = ks.length ∧ (∀ (j : Nat) d k z, ds[j]? = some d → ks[j]? = some k → sizes[k]? = some z → 0 ≤ d ∧ d < z) ∧
      forF (bName 6) nmBody (ks.map fun k => .int ((0 : Int) + (k : Nat))) [.v (.int c), .v (.int salt), .b (.lst (sizes.map .int)), .v (.int number), .v (.int left), .o found, x6, x7] = .nx [.v (.int c), .v (.int salt), .b (.lst (sizes.map .int)), .v (.int number), .v (.int left'), .o (found ++ ds.map .int), x6', x7']
  | [], found, left, x6, x7, _, _, _ => ⟨[], left, x6, x7, rfl, fun j d k z e => (by simp at e), by simp [forF]⟩
  | k :: ks, found, left, x6, x7, hk, hl, hf => by
    have hkl : k < sizes.length := hk k List.mem_cons_self
    have hz := hw sizes[k] (List.getElem_mem hkl)
    simp -implicitDefEqProofs only [List.length_cons] at hf
    obtain ⟨d, left1, x71, d0, d1, l1, e1⟩ := numbers_step c salt number left sizes found k sizes[k] x7 (List.getElem?_eq_getElem hkl) hz.1 hz.2 hs (by omega) hl (by omega)
    obtain ⟨ds, left2, x62, x72, g1, g2, g3⟩ := numbers_loop c salt number sizes hs hw hn ks (found ++ [.int d]) left1 (.v (.int (k : Int))) x71 (fun j hj => hk j (List.mem_cons_of_mem _ hj)) l1 (by simp; omega)
    refine ⟨d :: ds, left2, x62, x72, by simp [g1], fun j d' k' z e2 e3 e4 => ?_, ?_⟩
    · cases j with
      | zero =>
        simp at e2 e3
        subst e2; subst e3
        rw [List.getElem?_eq_getElem hkl] at e4
        cases e4
        exact ⟨d0, d1⟩
      | succ j => exact g2 j d' k' z (by simpa using e2) (by simpa using e3) e4
    · simp -implicitDefEqProofs only [List.map_cons, forF, bName, List.set_cons_succ, List.set_cons_zero, Int.zero_add, e1]
      simp -implicitDefEqProofs only [Int.zero_add] at g3
      rw [g3]
      simp
def nmAll : SX := (sSeq (sAsg 3 (eCB (on2 pMax2) (aCons (eBor 0) (aCons (eOp pSub (eUn pNeg (eC (.int 1))) (eBor 0)) aNil))))
      (sSeq (sAsg 4 (eVar 3)) (sSeq (sOwn 5 (aNil)) (sSeq (sFor (bName 6) (lUn iRn1 (eCB (on1 pLen) (aCons (eBor 2) aNil))) nmBody) (sRetO 5)))))
theorem nmAll_eq : b_law_numbers = nmAll := rfl
/-- the numbers drawn of a cell: each below its size -/
theorem numbers_ok (c salt : Int) (sizes : List Int) (hs : 0 ≤ salt ∧ salt ≤ 1000000) (hw : ∀ z ∈ sizes, 0 < z ∧ wideI z = true) (hn : sizes.length < 1000000) :
    ∃ ds : List Int, m_law_numbers [.int c, .int salt, .lst (sizes.map .int)] = .ok (ds.map .int) ∧ ds.length = sizes.length ∧ ∀ (j : Nat) d z, ds[j]? = some d → sizes[j]? = some z → 0 ≤ d ∧ d < z := by
  have hnum : ∃ number : Int, 0 ≤ number ∧ (if -1 - c > c then -1 - c else c) = number := ⟨_, by split <;> omega, rfl⟩
  obtain ⟨number, hnum, e3⟩ := hnum
  obtain ⟨ds, left', x6', x7', g1, g2, g3⟩ := numbers_loop c salt number sizes hs hw hn (List.range sizes.length) [] number .u .u (fun k hk => List.mem_range.mp hk) hnum (by simp -implicitDefEqProofs only [List.length_nil, List.length_range]; omega)
  refine ⟨ds, ?_, by simpa using g1, fun j d z e1 e2 => ?_⟩
  · have hr := rn1_nat sizes.length (by omega)
    simp -implicitDefEqProofs only [rngP] at hr
    simp -implicitDefEqProofs only [m_law_numbers, nmAll_eq, nmAll, mkF, List.length_cons, List.length_nil, if_pos, argS, env0, List.replicate, List.cons_append, List.nil_append]
    have s1 : (sAsg 3 (eCB (on2 pMax2) (aCons (eBor 0) (aCons (eOp pSub (eUn pNeg (eC (.int 1))) (eBor 0)) aNil)))) [.v (.int c), .v (.int salt), .b (.lst (sizes.map .int)), .u, .u, .u, .u, .u] = .nx [.v (.int c), .v (.int salt), .b (.lst (sizes.map .int)), .v (.int number), .u, .u, .u, .u] := by
      rw [← e3]; rfl
    have s2 : sAsg 4 (eVar 3) [.v (.int c), .v (.int salt), .b (.lst (sizes.map .int)), .v (.int number), .u, .u, .u, .u] = .nx [.v (.int c), .v (.int salt), .b (.lst (sizes.map .int)), .v (.int number), .v (.int number), .u, .u, .u] := rfl
    have s3 : sOwn 5 aNil [.v (.int c), .v (.int salt), .b (.lst (sizes.map .int)), .v (.int number), .v (.int number), .u, .u, .u] = .nx [.v (.int c), .v (.int salt), .b (.lst (sizes.map .int)), .v (.int number), .v (.int number), .o [], .u, .u] := rfl
    have s4 : sFor (bName 6) (lUn iRn1 (eCB (on1 pLen) (aCons (eBor 2) aNil))) nmBody [.v (.int c), .v (.int salt), .b (.lst (sizes.map .int)), .v (.int number), .v (.int number), .o [], .u, .u] = .nx [.v (.int c), .v (.int salt), .b (.lst (sizes.map .int)), .v (.int number), .v (.int left'), .o ([] ++ ds.map .int), x6', x7'] := by
      simp (config := {implicitDefEqProofs := false}) only [sFor_app, lUn_app, eCB_app, aCons_app, eBor_app, List.getElem?_cons_succ, List.getElem?_cons_zero, R.bind_ok, aNil_app, on1, pLen, List.length_map, ofO_some, hr, thenO_ok]
      exact g3
    simp (config := {implicitDefEqProofs := false}) only [runF, sSeq_app, s1, s2, s3, s4, seqO_nx, sRetO_app, List.getElem?_cons_succ, List.getElem?_cons_zero, List.nil_append, outF_rf]
  · have hj : j < sizes.length := (List.getElem?_eq_some_iff.mp e2).1
    exact g2 j d j z e1 (by simp [hj]) e2
end LK

set_option linter.all false
set_option maxRecDepth 100000
namespace LK
open JP
theorem drawn_ok (a b c : Int) (ha : 0 ≤ a ∧ a < 10 ^ 60) (hb : 0 ≤ b ∧ b < 7) (hc : 0 ≤ c ∧ c < 60) : ∃ n : Int, 0 ≤ n ∧ n < 10 ^ 60 ∧ m_law_drawn [.int a, .int b, .int c] = .ok (.int n) := by
  have sm10 : smallI 10 = true := smallI_of (by decide)
  have e60 : pPow (.int 10) (.int 60) = some (.int (10 ^ 60)) := pPow_s (n := 60) sm10 (by decide)
  have h60 : (0 : Int) < 10 ^ 60 := by decide
  have cap : (0 : Int) < 10 * 10 ^ c.toNat := by have : 0 < (10 : Int) ^ c.toNat := Int.pow_pos (by decide); omega
  have capl : (10 : Int) * 10 ^ c.toNat ≤ 10 ^ 60 := by
    have : (10 : Nat) ^ (c.toNat + 1) ≤ 10 ^ 60 := Nat.pow_le_pow_right (by decide) (by omega)
    rw [Nat.pow_succ] at this
    have e : ((10 ^ c.toNat : Nat) : Int) = (10 : Int) ^ c.toNat := by simp
    omega
  refine m_ex (P := fun r => ∃ n : Int, 0 ≤ n ∧ n < 10 ^ 60 ∧ r = .ok (.int n)) rfl ?_
  unfold b_law_drawn
  simp -implicitDefEqProofs
  refine res_for (fun k e => ∃ x, e = [.v (.int a), .v (.int b), .v (.int c), .v (.int (10 * 10 ^ k)), .v (.int a), x]) (ps := rngP 0 c.toNat) ?_ ⟨_, rfl⟩ ?_ ?_
  · simp -implicitDefEqProofs only [lUn_app, eVar_app, List.getElem?_cons_succ, List.getElem?_cons_zero, R.bind_ok, rn1_int (i := c) (by omega) (by omega), ofO_some]
  · rintro k p e hk ⟨x, rfl⟩
    obtain ⟨hk, rfl⟩ := rngP_at hk
    refine ⟨_, rfl, ?_⟩
    simp -implicitDefEqProofs [sm10, Int.pow_succ, Int.mul_assoc]
  rintro e ⟨x, rfl⟩
  simp -implicitDefEqProofs
  refine res_for (fun k e => ∃ m x, 0 ≤ m ∧ m < (10 : Int) ^ 60 ∧ e = [.v (.int a), .v (.int b), .v (.int c), .v (.int (10 * 10 ^ c.toNat)), .v (.int m), x]) (ps := rngP 0 b.toNat) ?_ ⟨a, _, ha.1, ha.2, rfl⟩ ?_ ?_
  · simp -implicitDefEqProofs only [lUn_app, eVar_app, List.getElem?_cons_succ, List.getElem?_cons_zero, R.bind_ok, rn1_int (i := b) (by omega) (by omega), ofO_some]
  · rintro k p e hk ⟨m, x, hm0, hm1, rfl⟩
    obtain ⟨hk, rfl⟩ := rngP_at hk
    have w1 : wideI m = true := wide_i hm0 (Int.lt_trans hm1 (by decide))
    have w2 : wideI (a + k) = true := wide_i (by omega) (Int.lt_trans (show a + k < 10 ^ 61 by omega) (by decide))
    refine ⟨_, rfl, ?_⟩
    simp -implicitDefEqProofs [w1, w2, sm10, -Int.reducePow]
    exact ⟨_, Int.emod_nonneg _ (by omega), Int.emod_lt_of_pos _ h60, _, rfl⟩
  rintro e ⟨m, x, hm0, hm1, rfl⟩
  simp -implicitDefEqProofs [cap, -Int.reducePow]
  exact ⟨Int.emod_nonneg _ (by omega), Int.lt_of_lt_of_le (Int.emod_lt_of_pos _ cap) capl⟩
theorem figs_at (k : Nat) (h : k < 10) : atN [48, 49, 50, 51, 52, 53, 54, 55, 56, 57] (k : Int) = some (48 + k) := by
  rw [atN_nat]
  have : ∀ k < 10, [48, 49, 50, 51, 52, 53, 54, 55, 56, 57][k]? = some (48 + k) := by decide
  exact this k h
theorem figures_eq (n : Nat) (h : (numD n).length ≤ 1000) : m_law_figures [.int (n : Int)] = .ok (.str (numD n)) := by
  refine m_of rfl ?_
  unfold b_law_figures
  simp -implicitDefEqProofs
  have sm10 : wideI 10 = true := wideI_of (by decide)
  refine res_wh (fun m e => ∃ (k : Nat) (t : List Nat), e = [.v (.int (k : Int)), .v (.str t)] ∧ m = k + (if t = [] then 1 else 0) ∧ numD n = (if k = 0 ∧ t ≠ [] then [] else numD k) ++ t) (n + 1) ⟨n, [], rfl, by simp, by simp⟩ (by simp) ?_
  rintro m e ⟨k, t, rfl, rfl, hn⟩
  have ht : t.length ≤ 1000 := by rw [hn] at h; simp at h; omega
  by_cases h0 : k = 0 ∧ t ≠ []
  · left
    rw [if_pos h0] at hn
    simp [h0, hn]
  · right
    rw [if_neg h0] at hn
    have he : ((k : Int) % 10) = ((k % 10 : Nat) : Int) := by omega
    have hat := figs_at (k % 10) (by omega)
    rw [← he] at hat
    refine ⟨?_, ?_⟩
    · simp
      by_cases hk : k = 0
      · have : t = [] := by simpa [hk] using h0
        simp [this]
      · left; omega
    · have hlt : 1 + t.length ≤ 1000000 := by omega
      have he2 : ((k : Int) / 10) = ((k / 10 : Nat) : Int) := by omega
      simp -implicitDefEqProofs [hat, hlt, sm10]
      refine ⟨_, ?_, k / 10, (48 + k % 10) :: t, ⟨he2, rfl⟩, rfl, ?_⟩
      · simp; by_cases hk : k = 0
        · have : t = [] := by simpa [hk] using h0
          simp [this, hk]
        · omega
      · by_cases hk : k < 10
        · have : k / 10 = 0 := by omega
          rw [hn, numD_lt hk, if_pos ⟨this, by simp⟩]
          have : k % 10 = k := by omega
          simp [this]
        · have : ¬ (k / 10 = 0 ∧ (48 + k % 10) :: t ≠ []) := by simp; omega
          rw [hn, numD_step (by omega), if_neg this]
          simp
theorem cutN_len {α : Type} (xs : List α) (a b : Option Int) : (cutN xs a b).length ≤ xs.length := by
  simp [cutN]; omega
theorem cutN_nat {α : Type} (xs : List α) (k : Nat) (h : k ≤ xs.length) : (cutN xs none (some (k : Int))).length = k ∧ (cutN xs (some (k : Int)) none).length = xs.length - k := by
  have : ¬ ((k : Int) < 0) := by omega
  simp [cutN, loI, hiI, clampI, this]; omega
theorem bent_ok (s : List Nat) (kind at_ : Int) (c : Nat) (hs : s.length ≤ 1000) (ha : 0 ≤ at_) : ∃ t : List Nat, t.length ≤ 3000 ∧ m_law_bent [.str s, .int kind, .int at_, .str [c]] = .ok (.str t) := by
  refine m_ex (P := fun r => ∃ t : List Nat, t.length ≤ 3000 ∧ r = .ok (.str t)) rfl ?_
  unfold b_law_bent
  have h0 : (0 : Int) < (s.length : Int) + 1 := by omega
  have hl : s.length ≤ 1000000 := by omega
  have b1 : ∀ a b, (cutN s a b).length ≤ 1000 := fun a b => Nat.le_trans (cutN_len s a b) hs
  have b2 : ∀ a b, (cutN s a b).length + 1 ≤ 1000000 := fun a b => by have := b1 a b; omega
  have b3 : ∀ a b a' b', (cutN s a b).length + 1 + (cutN s a' b').length ≤ 1000000 := fun a b a' b' => by have := b1 a b; have := b1 a' b'; omega
  have b4 : ∀ a b a' b', (cutN s a b).length + (cutN s a' b').length ≤ 1000000 := fun a b a' b' => by have := b1 a b; have := b1 a' b'; omega
  have b5 : ∀ a b a' b', (cutN s a b).length + ((cutN s a' b').length + 1) ≤ 1000000 := fun a b a' b' => by have := b1 a b; have := b1 a' b'; omega
  have c3 : ∀ a b a' b', (cutN s a b).length + 1 + (cutN s a' b').length ≤ 3000 := fun a b a' b' => by have := b1 a b; have := b1 a' b'; omega
  have c4 : ∀ a b a' b', (cutN s a b).length + (cutN s a' b').length ≤ 3000 := fun a b a' b' => by have := b1 a b; have := b1 a' b'; omega
  have c5 : ∀ a b a' b', (cutN s a b).length + ((cutN s a' b').length + 1) ≤ 3000 := fun a b a' b' => by have := b1 a b; have := b1 a' b'; omega
  simp -implicitDefEqProofs [hl, h0]
  refine res_if (fun _ => ?_) (fun _ => ?_)
  · simp -implicitDefEqProofs [hl, b2, b3, c3, c5]
  simp -implicitDefEqProofs
  refine res_if (fun _ => ?_) (fun _ => ?_)
  · simp -implicitDefEqProofs [hl, b4, c4]
  simp -implicitDefEqProofs
  refine res_if (fun _ => ?_) (fun _ => ?_)
  · simp -implicitDefEqProofs [hl, b2, b3, c3, c5]
  simp -implicitDefEqProofs
  omega
end LK

set_option linter.all false
set_option maxRecDepth 100000
namespace LK
open JP
theorem fold_take {s : List Nat} {k c : Nat} (h : s[k]? = some c) : s.take (k + 1) = s.take k ++ [c] := by
  rw [List.take_succ, h]; rfl
theorem due_eq (s : List Nat) (h : s.length ≤ 1000000) : m_law_due [.str s] = .ok (if s.length ≤ 60 ∧ wrN s = true then .int (valS s) else .non) := by
  refine m_of rfl ?_
  unfold b_law_due
  cases s with
  | nil => simp [wrN]
  | cons c r =>
    have hr : r.length ≤ 999999 := by simp at h; omega
    by_cases h6 : (60 : Int) < r.length + 1
    · have : ¬ (r.length + 1 ≤ 60) := by omega
      simp [hr, h6, this]
    by_cases h7 : c = 48 ∧ 1 < r.length + 1
    · have e1 : (1 : Int) < (r.length : Int) + 1 := by omega
      have e2 : r ≠ [] := by intro e; rw [e] at h7; simp at h7
      obtain ⟨rfl, h7⟩ := h7
      have : wrN (48 :: r) = false := by simp [wrN, e2]
      have e3 : 0 < r.length := by omega
      simp [hr, h6, atN, e1, this, e3]
    · have hf : (([c] == [48]) && decide ((1 : Int) < (r.length : Int) + 1)) = false := by
        by_cases hc : c = 48
        · have : ¬ ((1 : Int) < (r.length : Int) + 1) := by omega
          simp [this]
        · simp [hc]
      have hf2 : c = 48 → ¬ 0 < r.length := by intro e; omega
      simp -implicitDefEqProofs [hr, h6, atN, hf]
      refine res_if (fun h => ?_) (fun _ => ?_)
      · exfalso
        simp at h
        omega
      simp -implicitDefEqProofs
      refine res_for (fun k e => ∃ x, e = [.v (.str (c :: r)), .v (.int (valS ((c :: r).take k) : Nat)), x] ∧ ∀ (j d : Nat), j < k → (c :: r)[j]? = some d → (decide (48 ≤ d) && decide (d ≤ 57)) = true) (ps := (c :: r).map fun c => .str [c]) (by simp) ⟨_, rfl, fun j c hj => absurd hj (by omega)⟩ ?_ ?_
      · rintro k p e hk ⟨x, rfl, ih⟩
        obtain ⟨d, hd, rfl⟩ := str_at hk
        refine ⟨_, rfl, ?_⟩
        simp -implicitDefEqProofs only [sSeq_app, sIf_app, eOp_app, eBor_app, bName_app, List.set_cons_succ, List.set_cons_zero, List.getElem?_cons_succ, List.getElem?_cons_zero, R.bind_ok, pNinS, fig_mem, ofO_some, thenO_ok, eC_app, seqO_if]
        refine res_if (fun h => ?_) (fun h => ?_)
        · have : digS (c :: r) = false := dig_not hd (by rw [Bool.not_eq_true'] at h; exact h)
          simp [wrN, this]
        · rw [Bool.not_eq_false'] at h
          have e1 : valS ((c :: r).take (k + 1)) = valS ((c :: r).take k) * 10 + (d - 48) := by rw [fold_take hd, valS_app1]
          simp only [Bool.and_eq_true, decide_eq_true_eq] at h
          have e2 : ((valS ((c :: r).take k) : Int) * 10 + ((d : Int) - 48)) = ((valS ((c :: r).take (k + 1)) : Nat) : Int) := by omega
          have sm10 : smallI 10 = true := smallI_of (by decide)
          simp -implicitDefEqProofs only [sSeq_app, sNil_app, seqO_nx, sAsg_app, eOp_app, eUn_app, eBor_app, eC_app, List.set_cons_succ, List.set_cons_zero, List.getElem?_cons_succ, List.getElem?_cons_zero, R.bind_ok, pMul_r sm10, ofO_some, pIdx10, h, decide_true, Bool.and_self, if_pos, pAdd, e2, thenO_ok, Res_nx, After_nx]
          refine ⟨_, rfl, fun j c' hj hc' => ?_⟩
          by_cases e : j = k
          · subst e
            rw [hd] at hc'
            cases hc'
            simp [h]
          · exact ih j c' (by omega) hc'
      · rintro e ⟨x, rfl, hd⟩
        have hd : digS (c :: r) = true := dig_all fun k d hk => hd k d (by
          have := (List.getElem?_eq_some_iff.mp hk).1
          simpa using this) hk
        have hw : wrN (c :: r) = true := by
          simp [wrN, hd]
          by_cases hc : c = 48
          · right; refine ⟨hc, ?_⟩
            have := hf2 hc
            exact List.eq_nil_of_length_eq_zero (by omega)
          · left; exact hc
        have h60 : r.length + 1 ≤ 60 := by omega
        have et : List.take (r.length + 1) (c :: r) = c :: r := List.take_of_length_le (by simp)
        simp -implicitDefEqProofs [hw, h60]
        omega
theorem lread_str (s : List Nat) (h : s.length ≤ 1000000) : m_law_read [.str s] = .ok (if s.length ≤ 60 ∧ wrN s = true then .tup [.str [114, 101, 97, 100], .int (valS s)] else .tup [.str [110, 111], .int 0]) := by
  have hr := read_str s h
  refine m_of rfl ?_
  unfold b_law_read
  by_cases hc : s.length ≤ 60 ∧ wrN s = true
  · rw [if_pos hc] at hr ⊢
    simp [hr]
  · rw [if_neg hc] at hr ⊢
    simp [hr, noT, List.lookup]
theorem lread_odd (p : PV) (h : tyP p = true) (hs : ∀ s, p ≠ .str s) : m_law_read [p] = .ok (.tup [.str [110, 111], .int 0]) := by
  have hr := read_odd p h hs
  refine m_of rfl ?_
  unfold b_law_read
  simp [hr, noT, List.lookup]
theorem right_str (s : List Nat) (h : s.length ≤ 1000000) : m_law_right [.str s] = .ok (.bl true) := by
  have h1 := due_eq s h
  have h2 := lread_str s h
  refine m_of rfl ?_
  unfold b_law_right
  by_cases hc : s.length ≤ 60 ∧ wrN s = true
  · rw [if_pos hc] at h1 h2
    simp [h1, h2]
  · rw [if_neg hc] at h1 h2
    simp [h1, h2]
end LK

set_option linter.all false
set_option maxRecDepth 100000
namespace LK
open JP
theorem atN_mem {α : Type} (xs : List α) (i : Int) (h0 : 0 ≤ i) (h : i < xs.length) : ∃ p, atN xs i = some p ∧ p ∈ xs := by
  rw [atN_int _ h0]
  have hl : i.toNat < xs.length := by omega
  exact ⟨xs[i.toNat], List.getElem?_eq_getElem hl, List.getElem_mem hl⟩
theorem enumP_at : ∀ {xs : List PV} {n k : Nat} {p : PV}, (enumP n xs)[k]? = some p → ∃ x, xs[k]? = some x ∧ p = .tup [.int ((n + k : Nat) : Int), x]
  | [], n, k, p, h => by simp [enumP] at h
  | x :: xs, n, 0, p, h => by simp [enumP] at h; exact ⟨x, rfl, by simp [← h]⟩
  | x :: xs, n, k + 1, p, h => by
    simp [enumP] at h
    obtain ⟨y, h1, h2⟩ := enumP_at h
    exact ⟨y, by simpa using h1, by rw [h2]; congr 3; omega⟩
@[simp] theorem enumP_len : ∀ (xs : List PV) (n : Nat), (enumP n xs).length = xs.length
  | [], n => rfl
  | x :: xs, n => by simp [enumP, enumP_len]
/-- nine numbers -/
theorem nine {ds : List Int} (h : ds.length = 9) : ∃ a b c d e f g i j, ds = [a, b, c, d, e, f, g, i, j] := by
  match ds, h with
  | [a, b, c, d, e, f, g, i, j], _ => exact ⟨a, b, c, d, e, f, g, i, j, rfl⟩
theorem digS_num (n : Nat) : wrN (numD n) = true := by
  have h1 := numD_dig n
  have h2 := numD_ne n
  by_cases h : n = 0
  · subst h; rw [numD_zero]; rfl
  · have := numD_head (n := n) (by omega)
    simp [wrN, h1, h2, this]
theorem lread_no (s : List Nat) (h : s.length ≤ 1000000) (hw : wrN s = false) : m_law_read [.str s] = .ok (.tup [.str [110, 111], .int 0]) := by
  rw [lread_str s h, if_neg]
  rw [hw]; simp
def oddL (n : Int) (s : List Nat) : List PV := [.non, .bl true, .bl false, .int n, .int (-n), .lst [.str s], .tup [.str s], .dct [], .lst [], .tup [], .str (s ++ [10]), .str [], .str (32 :: s), .str (48 :: s)]
theorem odd_ty (n : Int) (s : List Nat) : ∀ p ∈ oddL n s, tyP p = true := by
  simp [oddL]
theorem odd_read (n : Int) (m : Nat) (h : (numD m).length ≤ 1000) : ∀ p ∈ oddL n (numD m), m_law_read [p] = .ok (.tup [.str [110, 111], .int 0]) := by
  have w1 : wrN (numD m ++ [10]) = false := by simp [wrN, digS]
  have w2 : wrN [] = false := rfl
  have w3 : wrN (32 :: numD m) = false := by simp [wrN, digS]
  have w4 : wrN (48 :: numD m) = false := by simp [wrN, numD_ne m]
  intro p hp
  simp only [oddL, List.mem_cons, List.not_mem_nil, or_false] at hp
  rcases hp with rfl | rfl | rfl | rfl | rfl | rfl | rfl | rfl | rfl | rfl | rfl | rfl | rfl | rfl
  · exact lread_odd _ rfl (fun s e => by cases e)
  · exact lread_odd _ rfl (fun s e => by cases e)
  · exact lread_odd _ rfl (fun s e => by cases e)
  · exact lread_odd _ rfl (fun s e => by cases e)
  · exact lread_odd _ rfl (fun s e => by cases e)
  · exact lread_odd _ rfl (fun s e => by cases e)
  · exact lread_odd _ rfl (fun s e => by cases e)
  · exact lread_odd _ rfl (fun s e => by cases e)
  · exact lread_odd _ rfl (fun s e => by cases e)
  · exact lread_odd _ rfl (fun s e => by cases e)
  · exact lread_no _ (by simp; omega) w1
  · exact lread_no _ (by simp) w2
  · exact lread_no _ (by simp; omega) w3
  · exact lread_no _ (by simp; omega) w4
theorem wh_of (p : PV) (h : tyP p = true) : (isTy "int" p && !isTy "bool" p) = isI p := by
  cases p <;> simp [isI] at h ⊢
theorem odd_loop (a0 a1 a2 a3 a4 a5 a6 a7 a8 x10 x11 : Sl) (n : Int) (s : List Nat) {Q : Ou → Prop} (hk : ∀ x10 x11, Q (.nx [a0, a1, a2, a3, a4, a5, a6, a7, a8, .v (.lst (oddL n s)), x10, x11])) : Res (sFor (bName 10) (lUn iSeq (eQ 9))
      (sSeq (sAsg 11 (eAnd (eUn (pIsi "int") (eBor 10)) (eNot (eUn (pIsi "bool") (eBor 10)))))
        (sIf
          (eOr (eAnd (eVar 11) (eOp pNot2 (eCall m_is_whole (aCons (eBor 10) aNil)) (eC (PV.bl true))))
            (eAnd (eNot (eVar 11)) (eOp pNot2 (eCall m_is_whole (aCons (eBor 10) aNil)) (eC (PV.bl false)))))
          (sRet (eC (PV.bl false))) sNil))
      [a0, a1, a2, a3, a4, a5, a6, a7, a8, .v (.lst (oddL n s)), x10, x11]) Q := by
  refine res_for' (fun k e => ∃ x10 x11, e = [a0, a1, a2, a3, a4, a5, a6, a7, a8, .v (.lst (oddL n s)), x10, x11]) (ps := oddL n s) ?_ ⟨_, _, rfl⟩ ?_ ?_
  · simp
  · rintro k p e hk ⟨x10, x11, rfl⟩
    have hp := odd_ty n s p (List.mem_iff_getElem?.mpr ⟨k, hk⟩)
    have e1 := is_whole_eq p hp
    have e2 := wh_of p hp
    have p1 : pIsi "int" p = some (.bl (isTy "int" p)) := by simp only [pIsi, hp, if_pos]
    have p2 : pIsi "bool" p = some (.bl (isTy "bool" p)) := by simp only [pIsi, hp, if_pos]
    refine ⟨_, rfl, ?_⟩
    cases hb : isI p
    · rw [hb] at e1 e2
      simp -implicitDefEqProofs [-pIsi, p1, p2, e1, e2, -isTy]
    · rw [hb] at e1 e2
      simp -implicitDefEqProofs [-pIsi, p1, p2, e1, e2, -isTy]
  · rintro e ⟨x10, x11, rfl⟩
    exact hk x10 x11
set_option maxHeartbeats 200000 in
theorem law_true (ns : List Int) (h : ns.length ≤ 63) : m_law [.scr (ns.map .int)] = .ok (.bl true) := by
  refine m_of rfl ?_
  unfold b_law
  have hcut : (cutN (List.map PV.int ns) none (some 39)) = (ns.take 39).map PV.int := by simp [cutN, loI, hiI, clampI]
  have hlen : (ns.take 39).length ≤ 39 := by simp; omega
  have hlen2 : 1 + (ns.take 39).length ≤ 1000000 := by omega
  simp -implicitDefEqProofs
  refine res_for (fun k e => ∃ x2 x3 x4 x5 x6 x7 x8 x9 x10 x11, e = [.v (.scr (ns.map .int)), .v (.str [48, 49, 50, 51, 52, 53, 54, 55, 56, 57, 32, 33, 34, 35, 36, 38, 39, 40, 41, 42, 43, 44, 45, 46, 47, 58, 59, 60, 61, 62, 63, 64, 65, 66, 67, 68, 69, 70, 71, 72, 73, 74, 75, 76, 77, 78, 79, 80, 81, 82, 83, 84, 85, 86, 87, 88, 89, 90, 91, 92, 93, 94, 95, 96, 97, 98, 99, 100, 101, 102, 103, 104, 105, 106, 107, 108, 109, 110, 111, 112, 113, 114, 115, 116, 117, 118, 119, 120, 121, 122, 123, 124, 125, 126, 9, 10]), x2, x3, x4, x5, x6, x7, x8, x9, x10, x11])
    (ps := enumP 0 ((0 :: ns.take 39).map .int)) ?_ ⟨_, _, _, _, _, _, _, _, _, _, rfl⟩ ?_ ?_
  · have : 1 + min 39 ns.length ≤ 1000000 := by omega
    simp -implicitDefEqProofs [hcut, this]
  · rintro k0 p e hk ⟨x2, x3, x4, x5, x6, x7, x8, x9, x10, x11, rfl⟩
    obtain ⟨x, hx, rfl⟩ := enumP_at hk
    have hk39 : k0 < 40 := by
      have := (List.getElem?_eq_some_iff.mp hx).1
      simp at this; omega
    obtain ⟨c, rfl⟩ : ∃ c, x = .int c := by
      simp only [List.getElem?_map] at hx
      cases e : (0 :: ns.take 39)[k0]? with
      | none => rw [e] at hx; cases hx
      | some c => rw [e] at hx; exact ⟨c, by simpa using hx.symm⟩
    refine ⟨_, rfl, ?_⟩
    obtain ⟨ds, e1, hl, hd⟩ := numbers_ok c (100 + (k0 : Int)) [10 ^ 60, 7, 60, 5, 62, 2, 96, 10, 14] (by omega) (by
      intro z hz
      have : 0 < z ∧ z ≤ 10 ^ 60 := by
        simp only [List.mem_cons, List.not_mem_nil, or_false] at hz
        omega
      exact ⟨this.1, wide_i (by omega) (Int.lt_of_le_of_lt this.2 (by decide))⟩) (by simp)
    obtain ⟨d0, d1, d2, d3, d4, d5, d6, d7, d8, rfl⟩ := nine hl
    have g0 := hd 0 d0 _ rfl rfl
    have g1 := hd 1 d1 _ rfl rfl
    have g2 := hd 2 d2 _ rfl rfl
    have g3 := hd 3 d3 _ rfl rfl
    have g4 := hd 4 d4 _ rfl rfl
    have g5 := hd 5 d5 _ rfl rfl
    have g6 := hd 6 d6 _ rfl rfl
    have g7 := hd 7 d7 _ rfl rfl
    have g8 := hd 8 d8 _ rfl rfl
    clear hd hl
    obtain ⟨n, n0, n1, e2⟩ := drawn_ok d0 d1 d2 g0 g1 g2
    obtain ⟨m, rfl⟩ : ∃ m : Nat, n = (m : Int) := ⟨n.toNat, by omega⟩
    have hm : (numD m).length ≤ 60 := numD_len (by decide) (by omega)
    have e3 := figures_eq m (by omega)
    have e4 := show_eq (m : Int) (by omega) (Int.lt_trans n1 (by decide))
    rw [Int.toNat_natCast] at e4
    have e5 := is_whole_eq (.int (m : Int)) rfl
    have e6 := is_whole_eq (.int (-(m : Int))) rfl
    have sm10 : smallI 10 = true := smallI_of (by decide)
    have h60 : pPow (.int 10) (.int 60) = some (.int (10 ^ 60)) := pPow_s (n := 60) sm10 (by decide)
    simp -implicitDefEqProofs [-pPow, h60, -Int.reducePow]
    simp only [List.map_cons, List.map_nil] at e1
    obtain ⟨s6, a6, _⟩ := atN_mem [48, 49, 50, 51, 52, 53, 54, 55, 56, 57, 32, 33, 34, 35, 36, 38, 39, 40, 41, 42, 43, 44, 45, 46, 47, 58, 59, 60, 61, 62, 63, 64, 65, 66, 67, 68, 69, 70, 71, 72, 73, 74, 75, 76, 77, 78, 79, 80, 81, 82, 83, 84, 85, 86, 87, 88, 89, 90, 91, 92, 93, 94, 95, 96, 97, 98, 99, 100, 101, 102, 103, 104, 105, 106, 107, 108, 109, 110, 111, 112, 113, 114, 115, 116, 117, 118, 119, 120, 121, 122, 123, 124, 125, 126, 9, 10] d6 g6.1 (by simp; omega)
    obtain ⟨s7, a7, _⟩ := atN_mem [48, 49, 50, 51, 52, 53, 54, 55, 56, 57, 32, 33, 34, 35, 36, 38, 39, 40, 41, 42, 43, 44, 45, 46, 47, 58, 59, 60, 61, 62, 63, 64, 65, 66, 67, 68, 69, 70, 71, 72, 73, 74, 75, 76, 77, 78, 79, 80, 81, 82, 83, 84, 85, 86, 87, 88, 89, 90, 91, 92, 93, 94, 95, 96, 97, 98, 99, 100, 101, 102, 103, 104, 105, 106, 107, 108, 109, 110, 111, 112, 113, 114, 115, 116, 117, 118, 119, 120, 121, 122, 123, 124, 125, 126, 9, 10] d7 g7.1 (by simp; omega)
    obtain ⟨s5, a5⟩ : ∃ s5, atN [PV.str [s6], .str [s7]] d5 = some (.str [s5]) := by
      obtain ⟨p, hp, hm⟩ := atN_mem [PV.str [s6], .str [s7]] d5 g5.1 (by simp; omega)
      simp only [List.mem_cons, List.not_mem_nil, or_false] at hm
      rcases hm with rfl | rfl
      · exact ⟨s6, hp⟩
      · exact ⟨s7, hp⟩
    obtain ⟨t, ht, e7⟩ := bent_ok (numD m) d3 d4 s5 (by omega) g4.1
    have e8 := right_str (numD m) (by omega)
    have e9 := right_str t (by omega)
    have l1 : (numD m).length + 1 ≤ 1000000 := by omega
    have l2 : 1 + (numD m).length ≤ 1000000 := by omega
    obtain ⟨po, ao, mo⟩ := atN_mem (oddL m (numD m)) d8 g8.1 (by simp [oddL]; omega)
    have e10 := odd_read m m (by omega) po mo
    simp only [oddL] at ao
    simp -implicitDefEqProofs [-pPow, h60, -Int.reducePow, e1, e2, e3, e4, e5, e6, isI, a6, a7, a5, e7, e8, e9, l1, l2, ao, e10]
    refine odd_loop _ _ _ _ _ _ _ _ _ _ _ m (numD m) (fun x10 x11 => ?_)
    simp only [After_nx]
    exact ⟨_, _, _, _, _, _, _, _, _, _, rfl⟩
  · rintro e ⟨x2, x3, x4, x5, x6, x7, x8, x9, x10, x11, rfl⟩
    simp
end LK

set_option Elab.async false
set_option linter.all false
set_option maxRecDepth 100000
namespace LK
open PySem L2 JP
def top (i : Nat) : Stmt := PySem.Challenge.pw_joinranks_k01_numbers_written_and_read.main.body.getD i (.Pass ⟨0, 0, 0, 0⟩)
structure Txt (K : PySem.W.Frag) (mg : Str → Option Value) : Prop where
  n_bool : mg "bool" = none
  n_enumerate : mg "enumerate" = none
  n_int : mg "int" = none
  n_isinstance : mg "isinstance" = none
  n_len : mg "len" = none
  n_max : mg "max" = none
  n_range : mg "range" = none
  n_str : mg "str" = none
  c_FIGURES : ∃ t, mg "FIGURES" = some (.str (tx [48, 49, 50, 51, 52, 53, 54, 55, 56, 57]) t)
  c_MOST_FIGURES : ∃ t, mg "MOST_FIGURES" = some (.int 60 t)
section
variable {P : Program} {w : World} {K : PySem.W.Frag} {mg : Str → Option Value} {base : Heap} {O : ObS}
abbrev s_NoText___init__ : Stmt := inClass (top 2) 0
theorem sc_NoText___init__ : FnScope ["self", "row"] ["self", "row"] (defScope s_NoText___init__) := ⟨rfl, rfl, rfl, by decide +kernel, rfl, by decide +kernel, by decide +kernel⟩
theorem ok_NoText___init__ {f C C0 : Addr} {fd : FuncData} (F : Fun K "__init__" "NoText.__init__" s_NoText___init__ f fd) (hT : OexC K C) (h0 : PySem.W.findIn K (.ref C) "row" = some none) (hm : mg "JoinError" = some (.ref C0)) (hs : PySem.W.specialIn K (.ref C0) "__getattribute__" = some (some (.builtin "type.__getattribute__"))) (hrd : PySem.W.readsIn K C0 (.type "type") = true) (vV : PySem.W.findCls K (.ref C0) (.type "type") "__init__" = some (.val (.builtin "ValueError.__init__"))) : FnOk P w K mg base CX0 1 f fd ["self", "row"] (spX1 C (PySem.Str.ofString "row")) :=
  init1_ok F sc_NoText___init__ hT h0 fun cdv A outer sh H E => pss_cons (ps_expr (pe_jeinit hm hs hrd vV (pa_cons (pv 0) (pa_cons pe_str pa_nil)))) (pss_one (ps_ost (pv 0) (pv 1)))
abbrev s_is_whole : Stmt := top 6
theorem sc_is_whole : FnScope ["thing"] ["thing"] (defScope s_is_whole) := ⟨rfl, rfl, rfl, by decide +kernel, rfl, by decide +kernel, by decide +kernel⟩
set_option maxHeartbeats 4000000 in
theorem ok_is_whole {f : Addr} {fd : FuncData} (F : Fun K "is_whole" "is_whole" s_is_whole f fd) (T : Txt K mg) (hK : O.K = K)  : FnOk P w K mg base (L2.CX P w) 2 f fd ["thing"] (spP O [true] m_is_whole) := by
  refine fn_P F sc_is_whole rfl (by decide) (fun cdv A outer sh H E Y hO tk hp hr => ?_)
  subst hO
  exact gs_one (gs_ret (ge_and (ge_isi "int" hK (by rfl) T.n_isinstance (by rfl) T.n_int (by decide +kernel) (ge_bor 0)) (ge_one (ge_not (ge_isi "bool" hK (by rfl) T.n_isinstance (by rfl) T.n_bool (by decide +kernel) (ge_bor 0))))))
abbrev s_writes_number : Stmt := top 7
theorem sc_writes_number : FnScope ["text", "sign"] ["text"] (defScope s_writes_number) := ⟨rfl, rfl, rfl, by decide +kernel, rfl, by decide +kernel, by decide +kernel⟩
set_option maxHeartbeats 4000000 in
theorem ok_writes_number {f : Addr} {fd : FuncData} (F : Fun K "writes_number" "writes_number" s_writes_number f fd) (T : Txt K mg) (hK : O.K = K)  : FnOk P w K mg base (L2.CX P w) 2 f fd ["text"] (spP O [false] m_writes_number) := by
  refine fn_P F sc_writes_number rfl (by decide) (fun cdv A outer sh H E Y hO tk hp hr => ?_)
  subst hO
  exact gs_cons (gs_for hp rfl (gi_str (ge_bor 0)) (gg_name 1 sc_writes_number.nd)
      (gs_one (gs_if (gt_ninS (ge_bor 1) (pe_pb ((by obtain ⟨t, h⟩ := T.c_FIGURES; exact ge_glob (p := .str [48, 49, 50, 51, 52, 53, 54, 55, 56, 57]) (v := .str (tx [48, 49, 50, 51, 52, 53, 54, 55, 56, 57])) (by rfl) h ⟨t, rfl⟩ fun _ _ => Rep.str_iff.mpr ⟨rfl, by decide⟩))))
      (gs_one (gs_ret (ge_bl)))
      (gs_nil))))
      (gs_one (gs_ret (ge_and (ge_ne hK hr.units (ge_bor 0) (pe_pb (ge_str []))) (ge_one (ge_or (ge_ne hK hr.units (pe_pb (ge_ix hK (ge_bor 0) (pe_pb (ge_int)))) (pe_pb (ge_str [48]))) (ge_one (ge_eq hK hr.units (ge_bor 0) (pe_pb (ge_str [48])))))))))
abbrev s_show_number : Stmt := top 8
theorem sc_show_number : FnScope ["number"] ["number"] (defScope s_show_number) := ⟨rfl, rfl, rfl, by decide +kernel, rfl, by decide +kernel, by decide +kernel⟩
set_option maxHeartbeats 4000000 in
theorem ok_show_number {f : Addr} {fd : FuncData} (F : Fun K "show_number" "show_number" s_show_number f fd) (T : Txt K mg) (hK : O.K = K)  : FnOk P w K mg base (L2.CX P w) 2 f fd ["number"] (spP O [false] m_show_number) := by
  refine fn_P F sc_show_number rfl (by decide) (fun cdv A outer sh H E Y hO tk hp hr => ?_)
  subst hO
  exact gs_one (gs_ret (ge_str1 T.n_str (ge_bor 0)))
abbrev s_read_number : Stmt := top 9
theorem sc_read_number : FnScope ["text"] ["text"] (defScope s_read_number) := ⟨rfl, rfl, rfl, by decide +kernel, rfl, by decide +kernel, by decide +kernel⟩
set_option maxHeartbeats 4000000 in
theorem ok_read_number {f : Addr} {fd : FuncData} (F : Fun K "read_number" "read_number" s_read_number f fd) (T : Txt K mg) (hK : O.K = K) {C_NoText : Addr} (X_NoText : XE1 P w K mg base O "NoText" "row" C_NoText 1) (G_writes_number : GFn P w K mg base "writes_number" 2 (spP O [false] m_writes_number)) : FnOk P w K mg base (L2.CX P w) 4 f fd ["text"] (spP O [false] m_read_number) := by
  refine fn_P F sc_read_number rfl (by decide) (fun cdv A outer sh H E Y hO tk hp hr => ?_)
  subst hO
  exact gs_cons (gs_if ((gw_or (gt_not (gt_val (ge_isi "str" hK (by rfl) T.n_isinstance (by rfl) T.n_str (by decide +kernel) (ge_bor 0)))) (gw_or (gt_gt (pe_pb (ge_len hK T.n_len (ge_bor 0))) (pe_pb ((by obtain ⟨t, h⟩ := T.c_MOST_FIGURES; exact ge_glob (p := .int 60) (v := .int 60) (by rfl) h ⟨t, rfl⟩ fun _ _ => Rep.int_iff.mpr rfl)))) (gw_or1 (gt_not (gt_val (ge_call G_writes_number (hr.mono (by decide)) tk (ga_v (ge_var 0) (ga_nil)))))))).pt)
      (gs_one (gs_raise1 "NoText" "row" X_NoText.made X_NoText.cl rfl (hr.mono (by decide)) tk (ga_v (ge_int) (ga_nil))))
      (gs_nil))
      (gs_one (gs_ret (ge_int1 T.n_int (ge_bor 0))))
abbrev s_law_numbers : Stmt := top 11
theorem sc_law_numbers : FnScope ["_law_cell", "_law_salt", "_law_sizes", "_law_number", "_law_left", "_law_found", "_law_k", "_law_one"] ["_law_cell", "_law_salt", "_law_sizes"] (defScope s_law_numbers) := ⟨rfl, rfl, rfl, by decide +kernel, rfl, by decide +kernel, by decide +kernel⟩
set_option maxHeartbeats 4000000 in
theorem ok_law_numbers {f : Addr} {fd : FuncData} (F : Fun K "_law_numbers" "_law_numbers" s_law_numbers f fd) (T : Txt K mg) (hK : O.K = K)  : FnOk P w K mg base (L2.CX P w) 2 f fd ["_law_cell", "_law_salt", "_law_sizes"] (spF O [false, false, true] m_law_numbers) := by
  refine fn_F F sc_law_numbers rfl (by decide) (fun cdv A outer sh H E Y hO tk hp hr => ?_)
  subst hO
  exact gs_cons (gs_asg 3 sc_law_numbers.nd (ge_max2 rfl T.n_max (ge_bor 0) (pe_pb (ge_sub (pe_pb (ge_neg (pe_pb (ge_int)))) (ge_bor 0)))))
      (gs_cons (gs_asg 4 sc_law_numbers.nd (ge_var 3))
      (gs_cons (gs_own 5 sc_law_numbers.nd (gf_lst (ga_nil)))
      (gs_cons (gs_for hp rfl (gi_rng1 T.n_range (ge_len hK T.n_len (ge_bor 2))) (gg_name 6 sc_law_numbers.nd)
      (gs_one (gs_if ((gw_and (gt_ge (ge_bor 3) (pe_pb (ge_pow (pe_pb (ge_int)) (pe_pb (ge_int))))) (gw_and1 (gt_gt (ge_bor 4) (pe_pb (ge_int))))).pt)
      (gs_cons (gs_app 5 (pe_bm PySem.F.plainAttrs_list PySem.F.slot_list_append PySem.F.type_list_append mt_append (pv 5) (pa_cons (ge_mod (ge_bor 4) (pe_pb (ge_ix hK (ge_bor 2) (ge_bor 6)))) pa_nil)))
      (gs_one (gs_asg 4 sc_law_numbers.nd (ge_div (ge_bor 4) (pe_pb (ge_ix hK (ge_bor 2) (ge_bor 6)))))))
      (gs_cons (gs_asg 7 sc_law_numbers.nd (ge_mod (pe_pb (ge_pow (pe_pb (ge_add (pe_pb (ge_add (pe_pb (ge_mod (ge_bor 3) (pe_pb (ge_int)))) (pe_pb (ge_mul (pe_pb (ge_int)) (ge_bor 1))))) (pe_pb (ge_int)))) (pe_pb (ge_int)))) (pe_pb (ge_int))))
      (gs_cons (gs_asg 7 sc_law_numbers.nd (ge_mod (pe_pb (ge_mul (pe_pb (ge_add (ge_bor 7) (pe_pb (ge_mul (pe_pb (ge_int)) (pe_pb (ge_add (ge_bor 6) (pe_pb (ge_int)))))))) (pe_pb (ge_add (ge_bor 6) (pe_pb (ge_int)))))) (pe_pb (ge_int))))
      (gs_cons (gs_asg 7 sc_law_numbers.nd (ge_mod (pe_pb (ge_mul (pe_pb (ge_mod (pe_pb (ge_pow (ge_bor 7) (pe_pb (ge_int)))) (pe_pb (ge_int)))) (pe_pb (ge_int)))) (pe_pb (ge_int))))
      (gs_one (gs_app 5 (pe_bm PySem.F.plainAttrs_list PySem.F.slot_list_append PySem.F.type_list_append mt_append (pv 5) (pa_cons (ge_mod (pe_pb (ge_div (ge_bor 7) (pe_pb (ge_int)))) (pe_pb (ge_ix hK (ge_bor 2) (ge_bor 6)))) pa_nil))))))))))
      (gs_one (gs_retO 5)))))
abbrev s_law_drawn : Stmt := top 12
theorem sc_law_drawn : FnScope ["_law_digit", "_law_turns", "_law_size", "_law_most", "_law_number", "_law_k"] ["_law_digit", "_law_turns", "_law_size"] (defScope s_law_drawn) := ⟨rfl, rfl, rfl, by decide +kernel, rfl, by decide +kernel, by decide +kernel⟩
set_option maxHeartbeats 4000000 in
theorem ok_law_drawn {f : Addr} {fd : FuncData} (F : Fun K "_law_drawn" "_law_drawn" s_law_drawn f fd) (T : Txt K mg) (hK : O.K = K)  : FnOk P w K mg base (L2.CX P w) 2 f fd ["_law_digit", "_law_turns", "_law_size"] (spP O [false, false, false] m_law_drawn) := by
  refine fn_P F sc_law_drawn rfl (by decide) (fun cdv A outer sh H E Y hO tk hp hr => ?_)
  subst hO
  exact gs_cons (gs_asg 3 sc_law_drawn.nd (ge_int))
      (gs_cons (gs_asg 4 sc_law_drawn.nd (ge_var 0))
      (gs_cons (gs_for hp rfl (gi_rng1 T.n_range (ge_var 2)) (gg_name 5 sc_law_drawn.nd)
      (gs_one (gs_asg 3 sc_law_drawn.nd (ge_mul (ge_bor 3) (pe_pb (ge_int))))))
      (gs_cons (gs_for hp rfl (gi_rng1 T.n_range (ge_var 1)) (gg_name 5 sc_law_drawn.nd)
      (gs_one (gs_asg 4 sc_law_drawn.nd (ge_mod (pe_pb (ge_mul (ge_bor 4) (pe_pb (ge_add (ge_bor 0) (ge_bor 5))))) (pe_pb (ge_pow (pe_pb (ge_int)) (pe_pb (ge_int))))))))
      (gs_one (gs_ret (ge_mod (ge_bor 4) (ge_bor 3)))))))
abbrev s_law_figures : Stmt := top 13
theorem sc_law_figures : FnScope ["_law_number", "_law_figures_here"] ["_law_number"] (defScope s_law_figures) := ⟨rfl, rfl, rfl, by decide +kernel, rfl, by decide +kernel, by decide +kernel⟩
set_option maxHeartbeats 4000000 in
theorem ok_law_figures {f : Addr} {fd : FuncData} (F : Fun K "_law_figures" "_law_figures" s_law_figures f fd) (T : Txt K mg) (hK : O.K = K)  : FnOk P w K mg base (L2.CX P w) 2 f fd ["_law_number"] (spP O [false] m_law_figures) := by
  refine fn_P F sc_law_figures rfl (by decide) (fun cdv A outer sh H E Y hO tk hp hr => ?_)
  subst hO
  exact gs_cons (gs_asg 1 sc_law_figures.nd (ge_str []))
      (gs_cons (gs_while hp ((gw_or (gt_gt (ge_bor 0) (pe_pb (ge_int))) (gw_or1 (gt_eq hK hr.units (ge_bor 1) (pe_pb (ge_str []))))).pt)
      (gs_cons (gs_asg 1 sc_law_figures.nd (ge_add (pe_pb (ge_ix hK (pe_pb (ge_str [48, 49, 50, 51, 52, 53, 54, 55, 56, 57])) (pe_pb (ge_mod (ge_bor 0) (pe_pb (ge_int)))))) (ge_bor 1)))
      (gs_one (gs_asg 0 sc_law_figures.nd (ge_div (ge_bor 0) (pe_pb (ge_int)))))))
      (gs_one (gs_ret (ge_var 1))))
abbrev s_law_bent : Stmt := top 14
theorem sc_law_bent : FnScope ["_law_figures_here", "_law_way", "_law_place", "_law_sign", "_law_at"] ["_law_figures_here", "_law_way", "_law_place", "_law_sign"] (defScope s_law_bent) := ⟨rfl, rfl, rfl, by decide +kernel, rfl, by decide +kernel, by decide +kernel⟩
set_option maxHeartbeats 4000000 in
theorem ok_law_bent {f : Addr} {fd : FuncData} (F : Fun K "_law_bent" "_law_bent" s_law_bent f fd) (T : Txt K mg) (hK : O.K = K)  : FnOk P w K mg base (L2.CX P w) 2 f fd ["_law_figures_here", "_law_way", "_law_place", "_law_sign"] (spP O [false, false, false, false] m_law_bent) := by
  refine fn_P F sc_law_bent rfl (by decide) (fun cdv A outer sh H E Y hO tk hp hr => ?_)
  subst hO
  exact gs_cons (gs_asg 4 sc_law_bent.nd (ge_mod (ge_bor 2) (pe_pb (ge_add (pe_pb (ge_len hK T.n_len (ge_bor 0))) (pe_pb (ge_int))))))
      (gs_cons (gs_if (gt_eq hK hr.units (ge_bor 1) (pe_pb (ge_int)))
      (gs_one (gs_ret (ge_add (pe_pb (ge_add (pe_pb (ge_slS (ge_bor 0) (go_no) (go_some (ge_var 4)))) (ge_bor 3))) (pe_pb (ge_slS (ge_bor 0) (go_some (ge_var 4)) (go_no))))))
      (gs_nil))
      (gs_cons (gs_if (gt_eq hK hr.units (ge_bor 1) (pe_pb (ge_int)))
      (gs_one (gs_ret (ge_add (pe_pb (ge_slS (ge_bor 0) (go_no) (go_some (ge_var 4)))) (pe_pb (ge_slS (ge_bor 0) (go_some (ge_add (ge_bor 4) (pe_pb (ge_int)))) (go_no))))))
      (gs_nil))
      (gs_cons (gs_if (gt_eq hK hr.units (ge_bor 1) (pe_pb (ge_int)))
      (gs_one (gs_ret (ge_add (pe_pb (ge_add (pe_pb (ge_slS (ge_bor 0) (go_no) (go_some (ge_var 4)))) (ge_bor 3))) (pe_pb (ge_slS (ge_bor 0) (go_some (ge_add (ge_bor 4) (pe_pb (ge_int)))) (go_no))))))
      (gs_nil))
      (gs_one (gs_ret (ge_var 0))))))
abbrev s_law_due : Stmt := top 15
theorem sc_law_due : FnScope ["_law_text", "_law_number", "_law_sign"] ["_law_text"] (defScope s_law_due) := ⟨rfl, rfl, rfl, by decide +kernel, rfl, by decide +kernel, by decide +kernel⟩
set_option maxHeartbeats 4000000 in
theorem ok_law_due {f : Addr} {fd : FuncData} (F : Fun K "_law_due" "_law_due" s_law_due f fd) (T : Txt K mg) (hK : O.K = K)  : FnOk P w K mg base (L2.CX P w) 2 f fd ["_law_text"] (spP O [false] m_law_due) := by
  refine fn_P F sc_law_due rfl (by decide) (fun cdv A outer sh H E Y hO tk hp hr => ?_)
  subst hO
  exact gs_cons (gs_if ((gw_or (gt_eq hK hr.units (ge_bor 0) (pe_pb (ge_str []))) (gw_or (gt_gt (pe_pb (ge_len hK T.n_len (ge_bor 0))) (pe_pb (ge_int))) (gw_or1 ((gw_and (gt_eq hK hr.units (pe_pb (ge_ix hK (ge_bor 0) (pe_pb (ge_int)))) (pe_pb (ge_str [48]))) (gw_and1 (gt_gt (pe_pb (ge_len hK T.n_len (ge_bor 0))) (pe_pb (ge_int))))).pt)))).pt)
      (gs_one (gs_ret (ge_non)))
      (gs_nil))
      (gs_cons (gs_asg 1 sc_law_due.nd (ge_int))
      (gs_cons (gs_for hp rfl (gi_str (ge_bor 0)) (gg_name 2 sc_law_due.nd)
      (gs_cons (gs_if (gt_ninS (ge_bor 2) (pe_pb (ge_str [48, 49, 50, 51, 52, 53, 54, 55, 56, 57])))
      (gs_one (gs_ret (ge_non)))
      (gs_nil))
      (gs_one (gs_asg 1 sc_law_due.nd (ge_add (pe_pb (ge_mul (ge_bor 1) (pe_pb (ge_int)))) (pe_pb (ge_idx10 rfl tk (ge_bor 2))))))))
      (gs_one (gs_ret (ge_var 1)))))
abbrev s_law_read : Stmt := top 16
theorem sc_law_read : FnScope ["_law_thing", "_law_found", "e"] ["_law_thing"] (defScope s_law_read) := ⟨rfl, rfl, rfl, by decide +kernel, rfl, by decide +kernel, by decide +kernel⟩
set_option maxHeartbeats 4000000 in
theorem ok_law_read {f : Addr} {fd : FuncData} (F : Fun K "_law_read" "_law_read" s_law_read f fd) (T : Txt K mg) (hK : O.K = K) {C_NoText : Addr} (X_NoText : XE1 P w K mg base O "NoText" "row" C_NoText 1) (G_read_number : GFn P w K mg base "read_number" 4 (spP O [false] m_read_number)) : FnOk P w K mg base (L2.CX P w) 5 f fd ["_law_thing"] (spP O [false] m_law_read) := by
  refine fn_P F sc_law_read rfl (by decide) (fun cdv A outer sh H E Y hO tk hp hr => ?_)
  subst hO
  exact gs_cons (gs_asg 1 sc_law_read.nd (ge_tup (ga_v (ge_str [114, 101, 97, 100]) (ga_v (ge_int) (ga_nil)))))
      (gs_cons (gs_try 2 "NoText" hK sc_law_read.nd ⟨rfl, by decide, Or.inl X_NoText.mg⟩ X_NoText.xm tk rfl rfl
      (fun W pn xe tk hp => gs_one (gs_asg 1 sc_law_read.nd (ge_tup (ga_v (ge_str [114, 101, 97, 100]) (ga_v (ge_call G_read_number (hr.mono (by decide)) tk (ga_v (ge_var 0) (ga_nil))) (ga_nil))))))
      (fun a oe cls d pn hz hf => gs_one (gs_asg 1 sc_law_read.nd (ge_tup (ga_v (ge_str [110, 111]) (ga_v (ge_xf 2 "NoText" "row" X_NoText.xf X_NoText.n1 X_NoText.cl hz hf) (ga_nil)))))))
      (gs_one (gs_ret (ge_var 1))))
abbrev s_law_right : Stmt := top 17
theorem sc_law_right : FnScope ["_law_text", "_law_due_here", "_law_word", "_law_number"] ["_law_text"] (defScope s_law_right) := ⟨rfl, rfl, rfl, by decide +kernel, rfl, by decide +kernel, by decide +kernel⟩
set_option maxHeartbeats 4000000 in
theorem ok_law_right {f : Addr} {fd : FuncData} (F : Fun K "_law_right" "_law_right" s_law_right f fd) (T : Txt K mg) (hK : O.K = K) (G_law_due : GFn P w K mg base "_law_due" 2 (spP O [false] m_law_due)) (G_law_read : GFn P w K mg base "_law_read" 5 (spP O [false] m_law_read)) : FnOk P w K mg base (L2.CX P w) 6 f fd ["_law_text"] (spP O [false] m_law_right) := by
  refine fn_P F sc_law_right rfl (by decide) (fun cdv A outer sh H E Y hO tk hp hr => ?_)
  subst hO
  exact gs_cons (gs_asg 1 sc_law_right.nd (ge_call G_law_due (hr.mono (by decide)) tk (ga_v (ge_var 0) (ga_nil))))
      (gs_cons (gs_unp (ge_call G_law_read (hr.mono (by decide)) tk (ga_v (ge_var 0) (ga_nil))) (gg_two 2 3 rfl sc_law_right.nd))
      (gs_cons (gs_if ((gw_or (gt_val (ge_isi "bool" hK (by rfl) T.n_isinstance (by rfl) T.n_bool (by decide +kernel) (ge_bor 3))) (gw_or1 (gt_not (gt_val (ge_isi "int" hK (by rfl) T.n_isinstance (by rfl) T.n_int (by decide +kernel) (ge_bor 3)))))).pt)
      (gs_one (gs_ret (ge_bl)))
      (gs_nil))
      (gs_cons (gs_if (gt_is (ge_bor 1) (pe_pb (ge_non)))
      (gs_one (gs_ret (ge_and (ge_eq hK hr.units (ge_bor 2) (pe_pb (ge_str [110, 111]))) (ge_one (ge_eq hK hr.units (ge_bor 3) (pe_pb (ge_int)))))))
      (gs_nil))
      (gs_one (gs_ret (ge_and (ge_eq hK hr.units (ge_bor 2) (pe_pb (ge_str [114, 101, 97, 100]))) (ge_one (ge_eq hK hr.units (ge_bor 3) (ge_bor 1)))))))))
abbrev s_law : Stmt := top 18
theorem sc_law : FnScope ["_law_script", "_law_some", "_law_at", "_law_cell", "_law_digits", "_law_number", "_law_figures_here", "_law_sign", "_law_text", "_law_odd", "_law_thing", "_law_whole"] ["_law_script"] (defScope s_law) := ⟨rfl, rfl, rfl, by decide +kernel, rfl, by decide +kernel, by decide +kernel⟩
set_option maxHeartbeats 4000000 in
theorem ok_law {f : Addr} {fd : FuncData} (F : Fun K "law" "law" s_law f fd) (T : Txt K mg) (hK : O.K = K) (G_is_whole : GFn P w K mg base "is_whole" 2 (spP O [true] m_is_whole)) (G_show_number : GFn P w K mg base "show_number" 2 (spP O [false] m_show_number)) (G_law_numbers : GFn P w K mg base "_law_numbers" 2 (spF O [false, false, true] m_law_numbers)) (G_law_drawn : GFn P w K mg base "_law_drawn" 2 (spP O [false, false, false] m_law_drawn)) (G_law_figures : GFn P w K mg base "_law_figures" 2 (spP O [false] m_law_figures)) (G_law_bent : GFn P w K mg base "_law_bent" 2 (spP O [false, false, false, false] m_law_bent)) (G_law_read : GFn P w K mg base "_law_read" 5 (spP O [false] m_law_read)) (G_law_right : GFn P w K mg base "_law_right" 6 (spP O [false] m_law_right)) : FnOk P w K mg base (L2.CX P w) 7 f fd ["_law_script"] (spP O [false] m_law) := by
  refine fn_P F sc_law rfl (by decide) (fun cdv A outer sh H E Y hO tk hp hr => ?_)
  subst hO
  exact gs_cons (gs_asg 1 sc_law.nd (ge_str [48, 49, 50, 51, 52, 53, 54, 55, 56, 57, 32, 33, 34, 35, 36, 38, 39, 40, 41, 42, 43, 44, 45, 46, 47, 58, 59, 60, 61, 62, 63, 64, 65, 66, 67, 68, 69, 70, 71, 72, 73, 74, 75, 76, 77, 78, 79, 80, 81, 82, 83, 84, 85, 86, 87, 88, 89, 90, 91, 92, 93, 94, 95, 96, 97, 98, 99, 100, 101, 102, 103, 104, 105, 106, 107, 108, 109, 110, 111, 112, 113, 114, 115, 116, 117, 118, 119, 120, 121, 122, 123, 124, 125, 126, 9, 10]))
      (gs_cons (gs_for hp rfl (gi_enum hK T.n_enumerate (pe_pq (pe_fp (gf_cat (pe_pb (pe_fp (gf_lst (ga_v (ge_int) (ga_nil))))) (pe_pb (pe_fp (gf_sl hK (ge_bor 0) (go_no) (go_some (ge_int))))))))) (gg_two 2 3 rfl sc_law.nd)
      (gs_cons (gs_asg 4 sc_law.nd (pe_fp (gf_call G_law_numbers (hr.mono (by decide)) tk (ga_v (ge_var 3) (ga_v (ge_add (pe_pb (ge_int)) (ge_bor 2)) (ga_b (pe_pb (pe_fp (gf_lst (ga_v (ge_pow (pe_pb (ge_int)) (pe_pb (ge_int))) (ga_v (ge_int) (ga_v (ge_int) (ga_v (ge_int) (ga_v (ge_int) (ga_v (ge_int) (ga_v (ge_int) (ga_v (ge_int) (ga_v (ge_int) (ga_nil))))))))))))) (ga_nil)))))))
      (gs_cons (gs_asg 5 sc_law.nd (ge_call G_law_drawn (hr.mono (by decide)) tk (ga_v (ge_ix hK (ge_bor 4) (pe_pb (ge_int))) (ga_v (ge_ix hK (ge_bor 4) (pe_pb (ge_int))) (ga_v (ge_ix hK (ge_bor 4) (pe_pb (ge_int))) (ga_nil))))))
      (gs_cons (gs_asg 6 sc_law.nd (ge_call G_law_figures (hr.mono (by decide)) tk (ga_v (ge_var 5) (ga_nil))))
      (gs_cons (gs_if ((gw_or (gt_ne hK hr.units (pe_pb (ge_call G_show_number (hr.mono (by decide)) tk (ga_v (ge_var 5) (ga_nil)))) (ge_bor 6)) (gw_or1 (gt_not (gt_val (ge_isi "str" hK (by rfl) T.n_isinstance (by rfl) T.n_str (by decide +kernel) (pe_pb (ge_call G_show_number (hr.mono (by decide)) tk (ga_v (ge_var 5) (ga_nil))))))))).pt)
      (gs_one (gs_ret (ge_bl)))
      (gs_nil))
      (gs_cons (gs_if ((gw_or (gt_isn (pe_pb (ge_call G_is_whole (hr.mono (by decide)) tk (ga_b (ge_bor 5) (ga_nil)))) (pe_pb (ge_bl))) (gw_or1 (gt_isn (pe_pb (ge_call G_is_whole (hr.mono (by decide)) tk (ga_b (pe_pb (ge_sub (pe_pb (ge_int)) (ge_bor 5))) (ga_nil)))) (pe_pb (ge_bl))))).pt)
      (gs_one (gs_ret (ge_bl)))
      (gs_nil))
      (gs_cons (gs_asg 7 sc_law.nd (ge_ix hK (pe_pb (pe_fp (gf_lst (ga_v (ge_ix hK (ge_bor 1) (pe_pb (ge_ix hK (ge_bor 4) (pe_pb (ge_int))))) (ga_v (ge_ix hK (ge_bor 1) (pe_pb (ge_ix hK (ge_bor 4) (pe_pb (ge_int))))) (ga_nil)))))) (pe_pb (ge_ix hK (ge_bor 4) (pe_pb (ge_int))))))
      (gs_cons (gs_asg 8 sc_law.nd (ge_call G_law_bent (hr.mono (by decide)) tk (ga_v (ge_var 6) (ga_v (ge_ix hK (ge_bor 4) (pe_pb (ge_int))) (ga_v (ge_ix hK (ge_bor 4) (pe_pb (ge_int))) (ga_v (ge_var 7) (ga_nil)))))))
      (gs_cons (gs_if ((gw_or (gt_not (gt_val (ge_call G_law_right (hr.mono (by decide)) tk (ga_v (ge_var 6) (ga_nil))))) (gw_or (gt_not (gt_val (ge_call G_law_right (hr.mono (by decide)) tk (ga_v (ge_var 8) (ga_nil))))) (gw_or1 (gt_not (gt_val (ge_call G_law_right (hr.mono (by decide)) tk (ga_v (ge_var 8) (ga_nil)))))))).pt)
      (gs_one (gs_ret (ge_bl)))
      (gs_nil))
      (gs_cons (gs_asg 9 sc_law.nd (pe_fp (gf_lst (ga_v (ge_non) (ga_v (ge_bl) (ga_v (ge_bl) (ga_v (ge_var 5) (ga_v (ge_sub (pe_pb (ge_int)) (ge_bor 5)) (ga_v (pe_fp (gf_lst (ga_v (ge_var 6) (ga_nil)))) (ga_v (ge_tup (ga_v (ge_var 6) (ga_nil))) (ga_v (ge_dct0) (ga_v (pe_fp (gf_lst (ga_nil))) (ga_v (ge_tup (ga_nil)) (ga_v (ge_add (ge_bor 6) (pe_pb (ge_str [10]))) (ga_nil)))))))))))))))
      (gs_cons (gs_asg 9 sc_law.nd (pe_fp (gf_cat (ge_bor 9) (pe_pb (pe_fp (gf_lst (ga_v (ge_str []) (ga_v (ge_add (pe_pb (ge_str [32])) (ge_bor 6)) (ga_v (ge_add (pe_pb (ge_str [48])) (ge_bor 6)) (ga_nil))))))))))
      (gs_cons (gs_if (gt_ne hK hr.units (pe_pb (ge_call G_law_read (hr.mono (by decide)) tk (ga_v (ge_ix hK (ge_bor 9) (pe_pb (ge_ix hK (ge_bor 4) (pe_pb (ge_int))))) (ga_nil)))) (pe_pb (ge_tup (ga_v (ge_str [110, 111]) (ga_v (ge_int) (ga_nil))))))
      (gs_one (gs_ret (ge_bl)))
      (gs_nil))
      (gs_one (gs_for hp rfl (gi_list hK (ge_q 9)) (gg_name 10 sc_law.nd)
      (gs_cons (gs_asg 11 sc_law.nd (ge_and (ge_isi "int" hK (by rfl) T.n_isinstance (by rfl) T.n_int (by decide +kernel) (ge_bor 10)) (ge_one (ge_not (ge_isi "bool" hK (by rfl) T.n_isinstance (by rfl) T.n_bool (by decide +kernel) (ge_bor 10))))))
      (gs_one (gs_if ((gw_or ((gw_and (gt_val (ge_var 11)) (gw_and1 (gt_isn (pe_pb (ge_call G_is_whole (hr.mono (by decide)) tk (ga_b (ge_bor 10) (ga_nil)))) (pe_pb (ge_bl))))).pt) (gw_or1 ((gw_and (gt_not (gt_val (ge_var 11))) (gw_and1 (gt_isn (pe_pb (ge_call G_is_whole (hr.mono (by decide)) tk (ga_b (ge_bor 10) (ga_nil)))) (pe_pb (ge_bl))))).pt))).pt)
      (gs_one (gs_ret (ge_bl)))
      (gs_nil))))))))))))))))))
      (gs_one (gs_ret (ge_bl))))
end
set_option maxHeartbeats 4000000 in
theorem all_mk {P : Program} {w : World} {K : PySem.W.Frag} {h : Heap} {mg : Str → Option Value} {fa : Addr} (X : K.In h) (G : h.Ns mainGlobals mg) (hfa : mg "law" = some (.ref fa))
    {t_FIGURES : Tok}
    {t_MOST_FIGURES : Tok}
    {CJ : Addr}
    {C_NoText fI_NoText : Addr} {nm_NoText qq_NoText : Str} {N_NoText : Addr} {bs_NoText bm_NoText sub_NoText : List Value} {sn_NoText : List Str} {ab_NoText : Bool} {col_NoText : Option Bool} {dd_NoText : Option Addr} {k0_NoText k1_NoText k2_NoText k3_NoText k5_NoText : Option Value} {od_NoText an_NoText : Option Addr} {sl_NoText : Array (Option Value)} {oc_NoText kV_NoText dc_NoText pm_NoText cd_NoText ct_NoText : Value}
    {f_is_whole : Addr} {od_is_whole an_is_whole : Option Addr} {sl_is_whole : Array (Option Value)} {oc_is_whole kV_is_whole dc_is_whole pm_is_whole cd_is_whole ct_is_whole : Value}
    {f_writes_number : Addr} {od_writes_number an_writes_number : Option Addr} {sl_writes_number : Array (Option Value)} {oc_writes_number kV_writes_number dc_writes_number pm_writes_number cd_writes_number ct_writes_number : Value}
    {f_show_number : Addr} {od_show_number an_show_number : Option Addr} {sl_show_number : Array (Option Value)} {oc_show_number kV_show_number dc_show_number pm_show_number cd_show_number ct_show_number : Value}
    {f_read_number : Addr} {od_read_number an_read_number : Option Addr} {sl_read_number : Array (Option Value)} {oc_read_number kV_read_number dc_read_number pm_read_number cd_read_number ct_read_number : Value}
    {f_law_numbers : Addr} {od_law_numbers an_law_numbers : Option Addr} {sl_law_numbers : Array (Option Value)} {oc_law_numbers kV_law_numbers dc_law_numbers pm_law_numbers cd_law_numbers ct_law_numbers : Value}
    {f_law_drawn : Addr} {od_law_drawn an_law_drawn : Option Addr} {sl_law_drawn : Array (Option Value)} {oc_law_drawn kV_law_drawn dc_law_drawn pm_law_drawn cd_law_drawn ct_law_drawn : Value}
    {f_law_figures : Addr} {od_law_figures an_law_figures : Option Addr} {sl_law_figures : Array (Option Value)} {oc_law_figures kV_law_figures dc_law_figures pm_law_figures cd_law_figures ct_law_figures : Value}
    {f_law_bent : Addr} {od_law_bent an_law_bent : Option Addr} {sl_law_bent : Array (Option Value)} {oc_law_bent kV_law_bent dc_law_bent pm_law_bent cd_law_bent ct_law_bent : Value}
    {f_law_due : Addr} {od_law_due an_law_due : Option Addr} {sl_law_due : Array (Option Value)} {oc_law_due kV_law_due dc_law_due pm_law_due cd_law_due ct_law_due : Value}
    {f_law_read : Addr} {od_law_read an_law_read : Option Addr} {sl_law_read : Array (Option Value)} {oc_law_read kV_law_read dc_law_read pm_law_read cd_law_read ct_law_read : Value}
    {f_law_right : Addr} {od_law_right an_law_right : Option Addr} {sl_law_right : Array (Option Value)} {oc_law_right kV_law_right dc_law_right pm_law_right cd_law_right ct_law_right : Value}
    {f_law : Addr} {od_law an_law : Option Addr} {sl_law : Array (Option Value)} {oc_law kV_law dc_law pm_law cd_law ct_law : Value}
    (z_bool : PySem.W.nsIn K mainGlobals "bool" = some none)
    (z_enumerate : PySem.W.nsIn K mainGlobals "enumerate" = some none)
    (z_int : PySem.W.nsIn K mainGlobals "int" = some none)
    (z_isinstance : PySem.W.nsIn K mainGlobals "isinstance" = some none)
    (z_len : PySem.W.nsIn K mainGlobals "len" = some none)
    (z_max : PySem.W.nsIn K mainGlobals "max" = some none)
    (z_range : PySem.W.nsIn K mainGlobals "range" = some none)
    (z_str : PySem.W.nsIn K mainGlobals "str" = some none)
    (q_FIGURES : PySem.W.nsIn K mainGlobals "FIGURES" = some (some (.str "0123456789" t_FIGURES)))
    (q_MOST_FIGURES : PySem.W.nsIn K mainGlobals "MOST_FIGURES" = some (some (.int 60 t_MOST_FIGURES)))
    (eJ : PySem.W.nsIn K mainGlobals "JoinError" = some (some (.ref CJ)))
    (eJs : PySem.W.specialIn K (.ref CJ) "__getattribute__" = some (some (.builtin "type.__getattribute__")))
    (eJr : PySem.W.readsIn K CJ (.type "type") = true)
    (eJv : PySem.W.findCls K (.ref CJ) (.type "type") "__init__" = some (.val (.builtin "ValueError.__init__")))
    (e1_NoText : PySem.W.nsIn K mainGlobals "NoText" = some (some (.ref C_NoText)))
    (e2_NoText : K.lookup C_NoText = some (excClassObj nm_NoText qq_NoText C_NoText N_NoText bs_NoText bm_NoText true sn_NoText sub_NoText ab_NoText col_NoText dd_NoText k0_NoText k1_NoText k2_NoText k3_NoText k5_NoText "ValueError.__new__"))
    (e3_NoText : PySem.HandSPX.refsVE bm_NoText = true)
    (e4_NoText : PySem.W.findIn K (.ref C_NoText) "__setattr__" = some (some (.builtin "object.__setattr__")))
    (e5_NoText : PySem.W.subIn K (.ref C_NoText) (.type "BaseException") = some true)
    (e6_NoText : PySem.W.typeIn K (.ref C_NoText) = some (.type "type"))
    (e7_NoText : PySem.W.keepIn K (.ref C_NoText) = true)
    (e8_NoText : PySem.W.findIn K (.ref C_NoText) "__init__" = some (some (.ref fI_NoText)))
    (e9_NoText : PySem.W.typeIn K (.ref fI_NoText) = some (.type "function"))
    (ea_NoText : K.lookup fI_NoText = some ⟨oc_NoText, od_NoText, .func (PySem.W.fnOf "__init__" "NoText.__init__" (defArgs s_NoText___init__) (defBody s_NoText___init__) (defScope s_NoText___init__) .none kV_NoText dc_NoText pm_NoText an_NoText cd_NoText ct_NoText), sl_NoText⟩)
    (eb_NoText : PySem.W.codeIn K cd_NoText "NoText.__init__" = true)
    (ec_NoText : PySem.W.keepIn K (.ref fI_NoText) = true)
    (ed_NoText : PySem.W.findIn K (.ref C_NoText) "__getattribute__" = some (some (.builtin "BaseException.__getattribute__")))
    (ee_NoText : PySem.W.findIn K (.ref C_NoText) "__getattr__" = some none)
    (ef_NoText : PySem.W.hasDictIn K C_NoText = true)
    (eg0_NoText : PySem.W.findIn K (.ref C_NoText) "row" = some none)
    (es_NoText_NoText : PySem.W.subIn K (.ref C_NoText) (.ref C_NoText) = some true)
    (a_is_whole : PySem.W.nsIn K mainGlobals "is_whole" = some (some (.ref f_is_whole)))
    (l_is_whole : K.lookup f_is_whole = some ⟨oc_is_whole, od_is_whole, .func (PySem.W.fnOf "is_whole" "is_whole" (defArgs s_is_whole) (defBody s_is_whole) (defScope s_is_whole) .none kV_is_whole dc_is_whole pm_is_whole an_is_whole cd_is_whole ct_is_whole), sl_is_whole⟩)
    (c_is_whole : PySem.W.codeIn K cd_is_whole "is_whole" = true)
    (k_is_whole : PySem.W.keepIn K (.ref f_is_whole) = true)
    (a_writes_number : PySem.W.nsIn K mainGlobals "writes_number" = some (some (.ref f_writes_number)))
    (l_writes_number : K.lookup f_writes_number = some ⟨oc_writes_number, od_writes_number, .func (PySem.W.fnOf "writes_number" "writes_number" (defArgs s_writes_number) (defBody s_writes_number) (defScope s_writes_number) .none kV_writes_number dc_writes_number pm_writes_number an_writes_number cd_writes_number ct_writes_number), sl_writes_number⟩)
    (c_writes_number : PySem.W.codeIn K cd_writes_number "writes_number" = true)
    (k_writes_number : PySem.W.keepIn K (.ref f_writes_number) = true)
    (a_show_number : PySem.W.nsIn K mainGlobals "show_number" = some (some (.ref f_show_number)))
    (l_show_number : K.lookup f_show_number = some ⟨oc_show_number, od_show_number, .func (PySem.W.fnOf "show_number" "show_number" (defArgs s_show_number) (defBody s_show_number) (defScope s_show_number) .none kV_show_number dc_show_number pm_show_number an_show_number cd_show_number ct_show_number), sl_show_number⟩)
    (c_show_number : PySem.W.codeIn K cd_show_number "show_number" = true)
    (k_show_number : PySem.W.keepIn K (.ref f_show_number) = true)
    (a_read_number : PySem.W.nsIn K mainGlobals "read_number" = some (some (.ref f_read_number)))
    (l_read_number : K.lookup f_read_number = some ⟨oc_read_number, od_read_number, .func (PySem.W.fnOf "read_number" "read_number" (defArgs s_read_number) (defBody s_read_number) (defScope s_read_number) .none kV_read_number dc_read_number pm_read_number an_read_number cd_read_number ct_read_number), sl_read_number⟩)
    (c_read_number : PySem.W.codeIn K cd_read_number "read_number" = true)
    (k_read_number : PySem.W.keepIn K (.ref f_read_number) = true)
    (a_law_numbers : PySem.W.nsIn K mainGlobals "_law_numbers" = some (some (.ref f_law_numbers)))
    (l_law_numbers : K.lookup f_law_numbers = some ⟨oc_law_numbers, od_law_numbers, .func (PySem.W.fnOf "_law_numbers" "_law_numbers" (defArgs s_law_numbers) (defBody s_law_numbers) (defScope s_law_numbers) .none kV_law_numbers dc_law_numbers pm_law_numbers an_law_numbers cd_law_numbers ct_law_numbers), sl_law_numbers⟩)
    (c_law_numbers : PySem.W.codeIn K cd_law_numbers "_law_numbers" = true)
    (k_law_numbers : PySem.W.keepIn K (.ref f_law_numbers) = true)
    (a_law_drawn : PySem.W.nsIn K mainGlobals "_law_drawn" = some (some (.ref f_law_drawn)))
    (l_law_drawn : K.lookup f_law_drawn = some ⟨oc_law_drawn, od_law_drawn, .func (PySem.W.fnOf "_law_drawn" "_law_drawn" (defArgs s_law_drawn) (defBody s_law_drawn) (defScope s_law_drawn) .none kV_law_drawn dc_law_drawn pm_law_drawn an_law_drawn cd_law_drawn ct_law_drawn), sl_law_drawn⟩)
    (c_law_drawn : PySem.W.codeIn K cd_law_drawn "_law_drawn" = true)
    (k_law_drawn : PySem.W.keepIn K (.ref f_law_drawn) = true)
    (a_law_figures : PySem.W.nsIn K mainGlobals "_law_figures" = some (some (.ref f_law_figures)))
    (l_law_figures : K.lookup f_law_figures = some ⟨oc_law_figures, od_law_figures, .func (PySem.W.fnOf "_law_figures" "_law_figures" (defArgs s_law_figures) (defBody s_law_figures) (defScope s_law_figures) .none kV_law_figures dc_law_figures pm_law_figures an_law_figures cd_law_figures ct_law_figures), sl_law_figures⟩)
    (c_law_figures : PySem.W.codeIn K cd_law_figures "_law_figures" = true)
    (k_law_figures : PySem.W.keepIn K (.ref f_law_figures) = true)
    (a_law_bent : PySem.W.nsIn K mainGlobals "_law_bent" = some (some (.ref f_law_bent)))
    (l_law_bent : K.lookup f_law_bent = some ⟨oc_law_bent, od_law_bent, .func (PySem.W.fnOf "_law_bent" "_law_bent" (defArgs s_law_bent) (defBody s_law_bent) (defScope s_law_bent) .none kV_law_bent dc_law_bent pm_law_bent an_law_bent cd_law_bent ct_law_bent), sl_law_bent⟩)
    (c_law_bent : PySem.W.codeIn K cd_law_bent "_law_bent" = true)
    (k_law_bent : PySem.W.keepIn K (.ref f_law_bent) = true)
    (a_law_due : PySem.W.nsIn K mainGlobals "_law_due" = some (some (.ref f_law_due)))
    (l_law_due : K.lookup f_law_due = some ⟨oc_law_due, od_law_due, .func (PySem.W.fnOf "_law_due" "_law_due" (defArgs s_law_due) (defBody s_law_due) (defScope s_law_due) .none kV_law_due dc_law_due pm_law_due an_law_due cd_law_due ct_law_due), sl_law_due⟩)
    (c_law_due : PySem.W.codeIn K cd_law_due "_law_due" = true)
    (k_law_due : PySem.W.keepIn K (.ref f_law_due) = true)
    (a_law_read : PySem.W.nsIn K mainGlobals "_law_read" = some (some (.ref f_law_read)))
    (l_law_read : K.lookup f_law_read = some ⟨oc_law_read, od_law_read, .func (PySem.W.fnOf "_law_read" "_law_read" (defArgs s_law_read) (defBody s_law_read) (defScope s_law_read) .none kV_law_read dc_law_read pm_law_read an_law_read cd_law_read ct_law_read), sl_law_read⟩)
    (c_law_read : PySem.W.codeIn K cd_law_read "_law_read" = true)
    (k_law_read : PySem.W.keepIn K (.ref f_law_read) = true)
    (a_law_right : PySem.W.nsIn K mainGlobals "_law_right" = some (some (.ref f_law_right)))
    (l_law_right : K.lookup f_law_right = some ⟨oc_law_right, od_law_right, .func (PySem.W.fnOf "_law_right" "_law_right" (defArgs s_law_right) (defBody s_law_right) (defScope s_law_right) .none kV_law_right dc_law_right pm_law_right an_law_right cd_law_right ct_law_right), sl_law_right⟩)
    (c_law_right : PySem.W.codeIn K cd_law_right "_law_right" = true)
    (k_law_right : PySem.W.keepIn K (.ref f_law_right) = true)
    (a_law : PySem.W.nsIn K mainGlobals "law" = some (some (.ref f_law)))
    (l_law : K.lookup f_law = some ⟨oc_law, od_law, .func (PySem.W.fnOf "law" "law" (defArgs s_law) (defBody s_law) (defScope s_law) .none kV_law dc_law pm_law an_law cd_law ct_law), sl_law⟩)
    (c_law : PySem.W.codeIn K cd_law "law" = true)
    (k_law : PySem.W.keepIn K (.ref f_law) = true) :
    ∃ fd : FuncData, (∀ (s : Shared) (v : Value), BindsTo s fd ⟨[v], []⟩ [("_law_script", v)]) ∧ ∀ base : Heap, K.In base → base.Ns mainGlobals mg → FnOk P w K mg base (L2.CX P w) 7 fa fd ["_law_script"] (spLaw K 63) := by
  have e := hfa.symm.trans (PySem.W.mg_of X G a_law)
  cases e
  have T : Txt K mg := ⟨PySem.W.mg_none_of X G z_bool, PySem.W.mg_none_of X G z_enumerate, PySem.W.mg_none_of X G z_int, PySem.W.mg_none_of X G z_isinstance, PySem.W.mg_none_of X G z_len, PySem.W.mg_none_of X G z_max, PySem.W.mg_none_of X G z_range, PySem.W.mg_none_of X G z_str, ⟨t_FIGURES, (PySem.W.mg_of X G q_FIGURES).trans (by rw [show (("0123456789" : String) : Str) = tx [48, 49, 50, 51, 52, 53, 54, 55, 56, 57] by decide +kernel])⟩, ⟨t_MOST_FIGURES, (PySem.W.mg_of X G q_MOST_FIGURES)⟩⟩
  let O : ObS := ⟨K, fun n => if n = "NoText" then some C_NoText else none, fun _ _ _ _ => False, fun _ _ _ _ _ _ h => h⟩
  have hK : O.K = K := rfl
  have T_NoText : OexC K C_NoText := ⟨⟨_, _, _, _, _, _, _, _, _, _, _, _, _, _, _, e2_NoText, e3_NoText⟩, e4_NoText, e5_NoText, e6_NoText, e7_NoText⟩
  have F_NoText := fun_mk (st := s_NoText___init__) ea_NoText eb_NoText ec_NoText
  have b_NoText := F_NoText.binds (ps := ["self", "row"]) fun _ _ _ _ _ _ us hl => match us, hl with | [_, _], _ => rfl
  have xm_NoText : XM O "NoText" (.ref C_NoText) := by
    intro n C h
    simp only [O] at h
    by_cases h_NoText : n = "NoText"
    · subst h_NoText
      have h' : C_NoText = C := by simpa using h
      subst h'
      exact (exm_of e5_NoText ef_NoText e6_NoText es_NoText_NoText).trans (by decide)
    rw [if_neg h_NoText] at h
    cases h
  have X_NoText : ∀ base, XE1 P w K mg base O "NoText" "row" C_NoText 1 := fun base => { made := ⟨T_NoText, PySem.W.mg_of X G e1_NoText, _, _, _, e8_NoText, e9_NoText, ok_NoText___init__ F_NoText T_NoText eg0_NoText (PySem.W.mg_of X G eJ) eJs eJr eJv, b_NoText⟩, cl := by simp [O], mg := PySem.W.mg_of X G e1_NoText, xf := ⟨ed_NoText, ee_NoText, e5_NoText, ef_NoText⟩, n1 := eg0_NoText, xm := xm_NoText }
  have F_is_whole := fun_mk (st := s_is_whole) l_is_whole c_is_whole k_is_whole
  have b_is_whole := F_is_whole.binds (ps := ["thing"]) fun _ _ _ _ _ _ us hl => match us, hl with | [_], _ => rfl
  have G_is_whole : ∀ base, GFn P w K mg base "is_whole" 2 (spP O [true] m_is_whole) := fun base => ⟨_, _, _, ok_is_whole F_is_whole T hK , PySem.W.mg_of X G a_is_whole, k_is_whole, b_is_whole⟩
  have F_writes_number := fun_mk (st := s_writes_number) l_writes_number c_writes_number k_writes_number
  have b_writes_number := F_writes_number.binds (ps := ["text"]) fun _ _ _ _ _ _ us hl => match us, hl with | [_], _ => rfl
  have G_writes_number : ∀ base, GFn P w K mg base "writes_number" 2 (spP O [false] m_writes_number) := fun base => ⟨_, _, _, ok_writes_number F_writes_number T hK , PySem.W.mg_of X G a_writes_number, k_writes_number, b_writes_number⟩
  have F_show_number := fun_mk (st := s_show_number) l_show_number c_show_number k_show_number
  have b_show_number := F_show_number.binds (ps := ["number"]) fun _ _ _ _ _ _ us hl => match us, hl with | [_], _ => rfl
  have G_show_number : ∀ base, GFn P w K mg base "show_number" 2 (spP O [false] m_show_number) := fun base => ⟨_, _, _, ok_show_number F_show_number T hK , PySem.W.mg_of X G a_show_number, k_show_number, b_show_number⟩
  have F_read_number := fun_mk (st := s_read_number) l_read_number c_read_number k_read_number
  have b_read_number := F_read_number.binds (ps := ["text"]) fun _ _ _ _ _ _ us hl => match us, hl with | [_], _ => rfl
  have G_read_number : ∀ base, GFn P w K mg base "read_number" 4 (spP O [false] m_read_number) := fun base => ⟨_, _, _, ok_read_number F_read_number T hK (X_NoText base) (G_writes_number base), PySem.W.mg_of X G a_read_number, k_read_number, b_read_number⟩
  have F_law_numbers := fun_mk (st := s_law_numbers) l_law_numbers c_law_numbers k_law_numbers
  have b_law_numbers := F_law_numbers.binds (ps := ["_law_cell", "_law_salt", "_law_sizes"]) fun _ _ _ _ _ _ us hl => match us, hl with | [_, _, _], _ => rfl
  have G_law_numbers : ∀ base, GFn P w K mg base "_law_numbers" 2 (spF O [false, false, true] m_law_numbers) := fun base => ⟨_, _, _, ok_law_numbers F_law_numbers T hK , PySem.W.mg_of X G a_law_numbers, k_law_numbers, b_law_numbers⟩
  have F_law_drawn := fun_mk (st := s_law_drawn) l_law_drawn c_law_drawn k_law_drawn
  have b_law_drawn := F_law_drawn.binds (ps := ["_law_digit", "_law_turns", "_law_size"]) fun _ _ _ _ _ _ us hl => match us, hl with | [_, _, _], _ => rfl
  have G_law_drawn : ∀ base, GFn P w K mg base "_law_drawn" 2 (spP O [false, false, false] m_law_drawn) := fun base => ⟨_, _, _, ok_law_drawn F_law_drawn T hK , PySem.W.mg_of X G a_law_drawn, k_law_drawn, b_law_drawn⟩
  have F_law_figures := fun_mk (st := s_law_figures) l_law_figures c_law_figures k_law_figures
  have b_law_figures := F_law_figures.binds (ps := ["_law_number"]) fun _ _ _ _ _ _ us hl => match us, hl with | [_], _ => rfl
  have G_law_figures : ∀ base, GFn P w K mg base "_law_figures" 2 (spP O [false] m_law_figures) := fun base => ⟨_, _, _, ok_law_figures F_law_figures T hK , PySem.W.mg_of X G a_law_figures, k_law_figures, b_law_figures⟩
  have F_law_bent := fun_mk (st := s_law_bent) l_law_bent c_law_bent k_law_bent
  have b_law_bent := F_law_bent.binds (ps := ["_law_figures_here", "_law_way", "_law_place", "_law_sign"]) fun _ _ _ _ _ _ us hl => match us, hl with | [_, _, _, _], _ => rfl
  have G_law_bent : ∀ base, GFn P w K mg base "_law_bent" 2 (spP O [false, false, false, false] m_law_bent) := fun base => ⟨_, _, _, ok_law_bent F_law_bent T hK , PySem.W.mg_of X G a_law_bent, k_law_bent, b_law_bent⟩
  have F_law_due := fun_mk (st := s_law_due) l_law_due c_law_due k_law_due
  have b_law_due := F_law_due.binds (ps := ["_law_text"]) fun _ _ _ _ _ _ us hl => match us, hl with | [_], _ => rfl
  have G_law_due : ∀ base, GFn P w K mg base "_law_due" 2 (spP O [false] m_law_due) := fun base => ⟨_, _, _, ok_law_due F_law_due T hK , PySem.W.mg_of X G a_law_due, k_law_due, b_law_due⟩
  have F_law_read := fun_mk (st := s_law_read) l_law_read c_law_read k_law_read
  have b_law_read := F_law_read.binds (ps := ["_law_thing"]) fun _ _ _ _ _ _ us hl => match us, hl with | [_], _ => rfl
  have G_law_read : ∀ base, GFn P w K mg base "_law_read" 5 (spP O [false] m_law_read) := fun base => ⟨_, _, _, ok_law_read F_law_read T hK (X_NoText base) (G_read_number base), PySem.W.mg_of X G a_law_read, k_law_read, b_law_read⟩
  have F_law_right := fun_mk (st := s_law_right) l_law_right c_law_right k_law_right
  have b_law_right := F_law_right.binds (ps := ["_law_text"]) fun _ _ _ _ _ _ us hl => match us, hl with | [_], _ => rfl
  have G_law_right : ∀ base, GFn P w K mg base "_law_right" 6 (spP O [false] m_law_right) := fun base => ⟨_, _, _, ok_law_right F_law_right T hK (G_law_due base) (G_law_read base), PySem.W.mg_of X G a_law_right, k_law_right, b_law_right⟩
  have F_law := fun_mk (st := s_law) l_law c_law k_law
  exact ⟨_, fun s v => .of_eq rfl, fun base _ _ => (ok_law F_law T hK (G_is_whole base) (G_show_number base) (G_law_numbers base) (G_law_drawn base) (G_law_figures base) (G_law_bent base) (G_law_read base) (G_law_right base)).imp (fun vs H Q E z => law_sp (O := O) (n := 63) (m := m_law) law_true vs H Q E z)⟩
end LK
open PySem PySem.W PyProof.Rows
set_option maxRecDepth 100000 in
set_option maxHeartbeats 0 in
theorem PySem.Challenge.cw_joinranks_k01_numbers_written_and_read_holds : PySem.Challenge.rw_joinranks_k01_numbers_written_and_read.Holds := by
  w_on; o_law; k_head; (case hw => w_witness2)
  k_fill
  refine JP.walk_law (l := PySem.Challenge.rw_joinranks_k01_numbers_written_and_read) (k := 7) (x := "_law_script") rfl rfl ⟨rfl, by decide, by decide⟩ (fun w h Y => PySem.W.kIn_of Y) ?F
  case F =>
    intro w mg fa h KX G hmg
    refine' LK.all_mk KX G hmg ?z_bool ?z_enumerate ?z_int ?z_isinstance ?z_len ?z_max ?z_range ?z_str ?q_FIGURES ?q_MOST_FIGURES ?eJ ?eJs ?eJr ?eJv ?e1_NoText ?e2_NoText ?e3_NoText ?e4_NoText ?e5_NoText ?e6_NoText ?e7_NoText ?e8_NoText ?e9_NoText ?ea_NoText ?eb_NoText ?ec_NoText ?ed_NoText ?ee_NoText ?ef_NoText ?eg0_NoText ?es_NoText_NoText ?a_is_whole ?l_is_whole ?c_is_whole ?k_is_whole ?a_writes_number ?l_writes_number ?c_writes_number ?k_writes_number ?a_show_number ?l_show_number ?c_show_number ?k_show_number ?a_read_number ?l_read_number ?c_read_number ?k_read_number ?a_law_numbers ?l_law_numbers ?c_law_numbers ?k_law_numbers ?a_law_drawn ?l_law_drawn ?c_law_drawn ?k_law_drawn ?a_law_figures ?l_law_figures ?c_law_figures ?k_law_figures ?a_law_bent ?l_law_bent ?c_law_bent ?k_law_bent ?a_law_due ?l_law_due ?c_law_due ?k_law_due ?a_law_read ?l_law_read ?c_law_read ?k_law_read ?a_law_right ?l_law_right ?c_law_right ?k_law_right ?a_law ?l_law ?c_law ?k_law
    (case z_bool => k_is)
    (case z_enumerate => k_is)
    (case z_int => k_is)
    (case z_isinstance => k_is)
    (case z_len => k_is)
    (case z_max => k_is)
    (case z_range => k_is)
    (case z_str => k_is)
    (case q_FIGURES => k_is)
    (case q_MOST_FIGURES => k_is)
    (case eJ => k_is)
    (case eJs => k_is)
    (case eJr => k_is)
    (case eJv => k_is)
    (case e1_NoText => k_is)
    (case e2_NoText => k_is)
    (case e3_NoText => decide +kernel)
    (case e4_NoText => k_is)
    (case e5_NoText => k_is)
    (case e6_NoText => k_is)
    (case e7_NoText => k_is)
    (case e8_NoText => k_is)
    (case e9_NoText => k_is)
    (case ea_NoText => k_is)
    (case eb_NoText => k_is)
    (case ec_NoText => k_is)
    (case ed_NoText => k_is)
    (case ee_NoText => k_is)
    (case ef_NoText => k_is)
    (case eg0_NoText => k_is)
    (case es_NoText_NoText => first | k_is | rfl)
    (case a_is_whole => k_is)
    (case l_is_whole => k_is)
    (case c_is_whole => k_is)
    (case k_is_whole => k_is)
    (case a_writes_number => k_is)
    (case l_writes_number => k_is)
    (case c_writes_number => k_is)
    (case k_writes_number => k_is)
    (case a_show_number => k_is)
    (case l_show_number => k_is)
    (case c_show_number => k_is)
    (case k_show_number => k_is)
    (case a_read_number => k_is)
    (case l_read_number => k_is)
    (case c_read_number => k_is)
    (case k_read_number => k_is)
    (case a_law_numbers => k_is)
    (case l_law_numbers => k_is)
    (case c_law_numbers => k_is)
    (case k_law_numbers => k_is)
    (case a_law_drawn => k_is)
    (case l_law_drawn => k_is)
    (case c_law_drawn => k_is)
    (case k_law_drawn => k_is)
    (case a_law_figures => k_is)
    (case l_law_figures => k_is)
    (case c_law_figures => k_is)
    (case k_law_figures => k_is)
    (case a_law_bent => k_is)
    (case l_law_bent => k_is)
    (case c_law_bent => k_is)
    (case k_law_bent => k_is)
    (case a_law_due => k_is)
    (case l_law_due => k_is)
    (case c_law_due => k_is)
    (case k_law_due => k_is)
    (case a_law_read => k_is)
    (case l_law_read => k_is)
    (case c_law_read => k_is)
    (case k_law_read => k_is)
    (case a_law_right => k_is)
    (case l_law_right => k_is)
    (case c_law_right => k_is)
    (case k_law_right => k_is)
    (case a_law => k_is)
    (case l_law => k_is)
    (case c_law => k_is)
    (case k_law => k_is)
#print axioms PySem.Challenge.cw_joinranks_k01_numbers_written_and_read_holds

