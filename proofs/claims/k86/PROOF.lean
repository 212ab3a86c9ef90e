import PyProof.Rows.All
import HandS.ForMost
import HandS.ForExc
import HandS.EndBits
import HandS.HotCalls
import HandS.Flow
import HandS.Nested
import HandS.Deep
import HandS.TupAny
import HandS.TupLe
import HandS.Conv
import HandS.Style
import HandS.Wide
import HandS.IsInst
import HandS.ExcInit
import HandS.ExcField
import KE.KExcIs
import HandS.ExcIs
import PyProof.IsRules
import PyProof.Rows.RegReprOcc
import KE.SortData
import HandS.Dict
import HandS.More
import HandS.ReplaceLit
import HandS.ReplaceList
import PyProof.StrBlock2
import PyProof.ListStr
import PyProof.Draws
import PyProof.EnumMake
import HandS.Codes
import HandS.FStr
import PyProof.ReprLen
import PyProof.ReprRoads
import PyProof.CallFns
import HandS.Gcd
import KE.KDictDisplayH
import KE.DatumOrd
import KE.KLam
import KE.SortKeyHeap
import HandS.EndTab
import HandS.SortKw
import HandS.Text
import KE.KDictZip
import PyProof.P3Eq
import PySem.Challenge.RW_tablesplayed_k86_meetings_checked
set_option Elab.async false
set_option linter.all false
section
/-! Pure values, slots, and what each construct of the text computes. -/
namespace PV
set_option autoImplicit false

inductive D where
  | non
  | bl (b : Bool)
  | int (i : Int)
  | str (s : List Nat)
  | lst (xs : List D)
  | tup (xs : List D)
  | dic (ks vs : List D)
  | scr (ns : List Int)

/-- a slot: unknown, a value that never changes again, an object held here alone, the k-th parameter that the def changes -/
inductive Slot where
  | un
  | fz (d : D)
  | own (d : D)
  | io (k : Nat) (d : D)
  | ex (c : Nat) (ds : List D)
  | tre (d : D)

/-- tre: an object held alone whose items that are lists are held alone too -/
inductive RV where
  | fz (d : D)
  | own (d : D)
  | bor (i : Nat)
  | tre (d : D)

abbrev Env := List Slot

@[simp] def Slot.d? : Slot → Option D
  | .un => none
  | .fz d => some d
  | .own d => some d
  | .io _ d => some d
  | .ex _ _ => none
  | .tre _ => none

@[simp] def RV.peek (env : Env) : RV → Option D
  | .fz d => some d
  | .own d => some d
  | .bor i => match env[i]? with
    | some s => s.d?
    | none => none
  | .tre _ => none

@[simp] def RV.settle : RV → RV
  | .fz d => .fz d
  | .own d => .fz d
  | .bor i => .bor i
  | .tre d => .fz d

/-- a value is given away: what was held alone never changes again -/
@[simp] def RV.freeze (env : Env) : RV → Option (D × Env)
  | .fz d => some (d, env)
  | .own d => some (d, env)
  | .bor i => match env[i]? with
    | some (.own d) => some (d, env.set i (.fz d))
    | some (.fz d) => some (d, env)
    | _ => none
  | .tre d => some (d, env)

@[simp] def freezeAll : List RV → Env → Option (List D × Env)
  | [], env => some ([], env)
  | r :: rs, env =>
    match r.freeze env with
    | none => none
    | some (d, env1) => match freezeAll rs env1 with
      | none => none
      | some (ds, env2) => some (d :: ds, env2)

@[simp] def peekAll (env : Env) : List RV → Option (List D)
  | [] => some []
  | r :: rs =>
    match r.peek env with
    | none => none
    | some d => match peekAll env rs with
      | none => none
      | some ds => some (d :: ds)

abbrev E := Env → Option (RV × Env)
abbrev EL := Env → Option (List RV × Env)
abbrev T := Env → Option (Bool × Env)

/-! ### expressions -/
def eVar (i : Nat) : E := fun env =>
  match env[i]? with
  | some (.fz d) => some (.fz d, env)
  | some (.own _) => some (.bor i, env)
  | some (.io _ _) => some (.bor i, env)
  | _ => none

def eC (d : D) : E := fun env => some (.fz d, env)

def eNil : EL := fun env => some ([], env)
def eCons (e : E) (es : EL) : EL := fun env =>
  match e env with
  | none => none
  | some (r, env1) => match es env1 with
    | none => none
    | some (rs, env2) => some (r.settle :: rs, env2)

/-- one operand -/
def eUn (fo : D → Option RV) (a : E) : E := fun env =>
  match a env with
  | none => none
  | some (r, env1) => match r.peek env1 with
    | none => none
    | some d => match fo d with
      | none => none
      | some q => some (q, env1)

/-- two operands -/
def eBin (fo : D → D → Option RV) (a b : E) : E := fun env =>
  match a env with
  | none => none
  | some (ra, env1) => match b env1 with
    | none => none
    | some (rb, env2) => match ra.peek env2, rb.peek env2 with
      | some x, some y => match fo x y with
        | none => none
        | some q => some (q, env2)
      | _, _ => none

/-- a built-in of some arguments -/
def eB (fo : List D → Option RV) (es : EL) : E := fun env =>
  match es env with
  | none => none
  | some (rs, env1) => match peekAll env1 rs with
    | none => none
    | some ds => match fo ds with
      | none => none
      | some q => some (q, env1)

def eLst (es : EL) : E := fun env =>
  match es env with
  | none => none
  | some (rs, env1) => match freezeAll rs env1 with
    | none => none
    | some (ds, env2) => if ds.length ≤ 16777216 then some (.own (.lst ds), env2) else none

def eTup (es : EL) : E := fun env =>
  match es env with
  | none => none
  | some (rs, env1) => match freezeAll rs env1 with
    | none => none
    | some (ds, env2) => if ds.length ≤ 16777216 then some (.fz (.tup ds), env2) else none

/-! ### tests -/
def asBool : D → Option Bool
  | .bl b => some b
  | _ => none
@[simp] theorem asBool_bl (b : Bool) : asBool (.bl b) = some b := rfl

/-- the truth of a value -/
def truth : D → Option Bool
  | .non => some false
  | .bl b => some b
  | .int i => some (i != 0)
  | .str s => some (!s.isEmpty)
  | .lst xs => some (!xs.isEmpty)
  | .tup xs => some (!xs.isEmpty)
  | .dic _ _ => none
  | .scr ns => some (!ns.isEmpty)

def tE (a : E) : T := fun env =>
  match a env with
  | none => none
  | some (r, env1) => match r.peek env1 with
    | none => none
    | some d => match truth d with
      | none => none
      | some b => some (b, env1)
def tNot (t : T) : T := fun env =>
  match t env with
  | none => none
  | some (b, env1) => some (!b, env1)
def tAnd (t u : T) : T := fun env =>
  match t env with
  | none => none
  | some (b, env1) => if b = true then u env1 else some (false, env1)
def tOr (t u : T) : T := fun env =>
  match t env with
  | none => none
  | some (b, env1) => if b = true then some (true, env1) else u env1

/-- a test that is a comparison -/
def tB (a : E) : T := fun env =>
  match a env with
  | some (.fz (.bl b), env1) => some (b, env1)
  | _ => none
def eChain (fo fo' : D → D → Option RV) (a b c : E) : E := fun env =>
  match a env with
  | none => none
  | some (ra, env1) => match b env1 with
    | none => none
    | some (rb, env2) => match ra.peek env2, rb.peek env2 with
      | some x, some y => match fo x y with
        | some (.fz (.bl k)) => if k = true then
            match c env2 with
            | none => none
            | some (rc, env3) => match rb.peek env3, rc.peek env3 with
              | some y, some z => match fo' y z with
                | none => none
                | some q => some (q, env3)
              | _, _ => none
          else some (.fz (.bl false), env2)
        | _ => none
      | _, _ => none
/-- a and b, a or b as values, a being a bool -/
def eAnd (a b : E) : E := fun env =>
  match a env with
  | some (.fz (.bl c), env1) => if c = true then b env1 else some (.fz (.bl false), env1)
  | _ => none
def eOr (a b : E) : E := fun env =>
  match a env with
  | some (.fz (.bl c), env1) => if c = true then some (.fz (.bl true), env1) else b env1
  | _ => none
def dNot (d : D) : Option RV := match truth d with
  | some b => some (.fz (.bl (!b)))
  | none => none
abbrev eNot (a : E) : E := eUn dNot a
def eIf (t : T) (a b : E) : E := fun env =>
  match t env with
  | none => none
  | some (c, env1) => if c = true then a env1 else b env1

/-! ### statements -/
inductive Out where
  | nxt (env : Env)
  | brk (env : Env)
  | cnt (env : Env)
  | ret (r : RV) (env : Env)
  | exc (c : Nat) (ds : List D) (env : Env)

abbrev S := Env → Option Out

def sPass : S := fun env => some (.nxt env)
def sBrk : S := fun env => some (.brk env)
def sCnt : S := fun env => some (.cnt env)
def sSeq (a b : S) : S := fun env =>
  match a env with
  | none => none
  | some (.nxt env1) => b env1
  | some o => some o
def sExpr (e : E) : S := fun env =>
  match e env with
  | none => none
  | some (_, env1) => some (.nxt env1)
def sRet (e : E) : S := fun env =>
  match e env with
  | none => none
  | some (r, env1) => some (.ret r env1)
def sRetN : S := fun env => some (.ret (.fz .non) env)
def sIf (t : T) (a b : S) : S := fun env =>
  match t env with
  | none => none
  | some (c, env1) => if c = true then a env1 else b env1

/-- a store into a slot: a parameter that the def changes stays where it is -/
def putSlot (i : Nat) (s : Slot) (env : Env) : Option Env :=
  match env[i]? with
  | some (.io _ _) => none
  | some _ => some (env.set i s)
  | none => none
def sSet (i : Nat) (e : E) : S := fun env =>
  match e env with
  | none => none
  | some (.own d, env1) => match putSlot i (.own d) env1 with
    | none => none
    | some env2 => some (.nxt env2)
  | some (.tre d, env1) => match putSlot i (.tre d) env1 with
    | none => none
    | some env2 => some (.nxt env2)
  | some (r, env1) => match r.freeze env1 with
    | none => none
    | some (d, env2) => match putSlot i (.fz d) env2 with
      | none => none
      | some env3 => some (.nxt env3)

/-- targets of a loop or of an unpacking -/
inductive Tg where
  | nm (i : Nat)
  | tp (ts : List Tg)
mutual
def Tg.put : Tg → D → Env → Option Env
  | .nm i, d, env => putSlot i (.fz d) env
  | .tp ts, d, env => match d with
    | .tup ds => putL ts ds env
    | _ => none
def putL : List Tg → List D → Env → Option Env
  | [], [], env => some env
  | t :: ts, d :: ds, env => match t.put d env with
    | none => none
    | some env1 => putL ts ds env1
  | _, _, _ => none
end

mutual
def Tg.names : Tg → List Nat
  | .nm i => [i]
  | .tp ts => namesL ts
def namesL : List Tg → List Nat
  | [] => []
  | t :: ts => t.names ++ namesL ts
end
abbrev I := Env → Option (List D × Env)
def forL (tg : Tg) (body : S) : List D → S
  | [], env => some (.nxt env)
  | d :: ds, env => match tg.put d env with
    | none => none
    | some env1 => match body env1 with
      | none => none
      | some (.nxt e) => forL tg body ds e
      | some (.cnt e) => forL tg body ds e
      | some (.brk e) => some (.nxt e)
      | some o => some o
def sFor (it : I) (tg : Tg) (body : S) : S := fun env =>
  match it env with
  | none => none
  | some (ds, env1) => forL tg body ds env1

def whileL (t : T) (body : S) : Nat → S
  | 0, _ => none
  | n + 1, env => match t env with
    | none => none
    | some (false, e) => some (.nxt e)
    | some (true, e) => match body e with
      | none => none
      | some (.nxt e) => whileL t body n e
      | some (.cnt e) => whileL t body n e
      | some (.brk e) => some (.nxt e)
      | some o => some o

/-- names forgotten -/
def wipeE (vs : List Nat) (env : Env) : Env := vs.foldr (fun v e => e.set v .un) env
/-- what stood at the slots vs -/
def wipeable (vs : List Nat) (env : Env) : Bool := vs.all fun v => match env[v]? with
  | some .un => true
  | some (.fz _) => true
  | _ => false
/-- the slots vs of old again -/
def backE (vs : List Nat) (old env : Env) : Env := vs.foldr (fun v e => e.set v (old.getD v .un)) env

def lcL (tg : Tg) (t : T) (elt : E) (vs : List Nat) : List D → List D → Env → Option (List D × Env)
  | [], acc, env => some (acc, env)
  | d :: ds, acc, env => match tg.put d (wipeE vs env) with
    | none => none
    | some env1 => match t env1 with
      | none => none
      | some (false, env2) => lcL tg t elt vs ds acc env2
      | some (true, env2) => match elt env2 with
        | none => none
        | some (r, env3) => match r.freeze env3 with
          | none => none
          | some (x, env4) => lcL tg t elt vs ds (acc ++ [x]) env4
def eLc (it : I) (tg : Tg) (t : T) (elt : E) (vs : List Nat) : E := fun env =>
  match it env with
  | none => none
  | some (ds, env1) => if wipeable vs env1 = true then
      match lcL tg t elt vs ds [] env1 with
      | none => none
      | some (xs, env2) => some (.own (.lst xs), backE vs env1 env2)
    else none
end PV
namespace PV
def tTrue : T := fun env => some (true, env)

/-! ### objects that change -/
/-- Python's index -/
def ixOf (n : Nat) (i : Int) : Option Nat := if 0 ≤ i then (if i < n then some i.toNat else none) else if -(n : Int) ≤ i then some (i + n).toNat else none
/-- the object that slot j holds is another one now -/
def upSlot (j : Nat) (d : D) (env : Env) : Option Env :=
  match env[j]? with
  | some (.own _) => some (env.set j (.own d))
  | some (.io k _) => some (env.set j (.io k d))
  | _ => none
/-- what the object that slot j holds is -/
def heldAt (env : Env) : RV → Option (Nat × D)
  | .bor j => match env[j]? with
    | some (.own d) => some (j, d)
    | some (.io _ d) => some (j, d)
    | _ => none
  | _ => none
/-- o[ix] = val -/
def sSetIx (fs : D → D → D → Option D) (o ix val : E) : S := fun env =>
  match val env with
  | none => none
  | some (rv, env1) => match rv.freeze env1 with
    | none => none
    | some (x, env2) => match o env2 with
      | none => none
      | some (ro, env3) => match ix env3 with
        | none => none
        | some (ri, env4) => match heldAt env4 ro, ri.peek env4 with
          | some (j, c), some k => match fs c k x with
            | none => none
            | some c' => match upSlot j c' env4 with
              | none => none
              | some env5 => some (.nxt env5)
          | _, _ => none
/-- o[ix] op= e: the object is read, the operand reckoned, the object changed -/
def sAugIx (fg : D → D → Option D) (fo : D → D → Option D) (fs : D → D → D → Option D) (o ix e : E) : S := fun env =>
  match o env with
  | none => none
  | some (ro, env1) => match ix env1 with
    | none => none
    | some (ri, env2) => match heldAt env2 ro, ri.peek env2 with
      | some (_, c), some k => match fg c k with
        | none => none
        | some x => match e env2 with
          | none => none
          | some (re, env3) => match re.peek env3 with
            | none => none
            | some y => match fo x y with
              | none => none
              | some z => match heldAt env3 ro, ri.settle.peek env3 with
                | some (j, c'), some k' => match fs c' k' z with
                  | none => none
                  | some c'' => match upSlot j c'' env3 with
                    | none => none
                    | some env4 => some (.nxt env4)
                | _, _ => none
      | _, _ => none
/-- kinds of what has a method -/
def isL : D → Bool
  | .lst _ => true
  | _ => false
def isS : D → Bool
  | .str _ => true
  | _ => false
def isD : D → Bool
  | .dic _ _ => true
  | _ => false
/-- a method that changes its object: the object then, what it hands back -/
def eMut (ty : D → Bool) (fm : D → List D → Option (D × RV)) (o : E) (es : EL) : E := fun env =>
  match o env with
  | none => none
  | some (ro, env1) => match heldAt env1 ro with
    | none => none
    | some (_, c0) => if ty c0 = true then
        match es env1 with
        | none => none
        | some (rs, env2) => match freezeAll rs env2 with
          | none => none
          | some (ds, env3) => match heldAt env3 ro with
            | none => none
            | some (j, c) => match fm c ds with
              | none => none
              | some (c', res) => match upSlot j c' env3 with
                | none => none
                | some env4 => some (res, env4)
      else none
/-- a method that reads -/
def eMeth (ty : D → Bool) (fm : D → List D → Option RV) (o : E) (es : EL) : E := fun env =>
  match o env with
  | none => none
  | some (ro, env1) => match ro.peek env1 with
    | none => none
    | some c0 => if ty c0 = true then
        match es env1 with
        | none => none
        | some (rs, env2) => match ro.settle.peek env2, peekAll env2 rs with
          | some c, some ds => match fm c ds with
            | none => none
            | some res => some (res, env2)
          | _, _ => none
      else none

/-! ### defs -/
inductive Arg where
  | fz (d : D)
  | io (d : D)
inductive Res where
  | ok (r : RV) (outs : List D)
  | exc (c : Nat) (ds : List D) (outs : List D)
abbrev Fn := List Arg → Option Res

def argSlots : Nat → List Arg → List Slot
  | _, [] => []
  | k, .fz d :: r => .fz d :: argSlots k r
  | k, .io d :: r => .io k d :: argSlots (k + 1) r
def outsOf : Nat → List Arg → Env → Option (List D)
  | _, [], _ => some []
  | k, .fz _ :: as, _ :: env => outsOf k as env
  | k, .io _ :: as, .io j d :: env => if j = k then
      match outsOf (k + 1) as env with
      | none => none
      | some ds => some (d :: ds)
    else none
  | _, _, _ => none
/-- what is handed back -/
def handed (env : Env) : RV → Option RV
  | .fz d => some (.fz d)
  | .own d => some (.own d)
  | .bor i => match env[i]? with
    | some (.own d) => some (.own d)
    | some (.fz d) => some (.fz d)
    | some (.tre d) => some (.tre d)
    | _ => none
  | .tre d => some (.tre d)
def fnOf (n : Nat) (body : S) : Fn := fun as =>
  match body (argSlots 0 as ++ List.replicate (n - as.length) .un) with
  | some (.nxt env) => match outsOf 0 as env with
    | none => none
    | some outs => some (.ok (.fz .non) outs)
  | some (.ret r env) => match handed env r, outsOf 0 as env with
    | some q, some outs => some (.ok q outs)
    | _, _ => none
  | some (.exc c ds env) => match outsOf 0 as env with
    | none => none
    | some outs => some (.exc c ds outs)
  | _ => none

def D.scal : D → Bool
  | .non => true
  | .bl _ => true
  | .int _ => true
  | .str _ => true
  | _ => false
def RV.flat : RV → Bool
  | .fz d => d.scal
  | .own (.lst ds) => ds.all D.scal
  | _ => false
/-- the arguments: true: handed in to be changed -/
def argsOf (env : Env) : List Bool → List RV → Option (List Arg)
  | [], [] => some []
  | false :: ms, r :: rs => match r with
    | .bor i => match env[i]? with
      | some (.own d) => match argsOf env ms rs with
        | none => none
        | some as => some (.fz d :: as)
      | some (.fz d) => match argsOf env ms rs with
        | none => none
        | some as => some (.fz d :: as)
      | _ => none
    | .fz d => match argsOf env ms rs with
      | none => none
      | some as => some (.fz d :: as)
    | .own _ => none
    | .tre _ => none
  | true :: ms, r :: rs => match heldAt env r with
    | none => none
    | some (_, d) => match argsOf env ms rs with
      | none => none
      | some as => some (.io d :: as)
  | _, _ => none
/-- the slots of those handed in to be changed, of the others -/
def ioIx : List Bool → List RV → List Nat
  | true :: ms, .bor i :: rs => i :: ioIx ms rs
  | _ :: ms, _ :: rs => ioIx ms rs
  | _, _ => []
def borIx : List Bool → List RV → List Nat
  | false :: ms, .bor i :: rs => i :: borIx ms rs
  | _ :: ms, _ :: rs => borIx ms rs
  | _, _ => []
def setOuts : List Nat → List D → Env → Option Env
  | [], [], env => some env
  | i :: is, d :: ds, env => match upSlot i d env with
    | none => none
    | some env1 => setOuts is ds env1
  | _, _, _ => none
/-- what slots hold never changes again -/
def fixAll : List Nat → Env → Env
  | [], env => env
  | i :: is, env => match env[i]? with
    | some (.own d) => fixAll is (env.set i (.fz d))
    | _ => fixAll is env
def apart (ix bx : List Nat) : Bool := match ix with
  | [] => true
  | i :: is => !is.contains i && !bx.contains i && apart is bx
inductive EOut where
  | val (r : RV) (env : Env)
  | exc (c : Nat) (ds : List D) (env : Env)
abbrev EO := Env → Option EOut
def eCallO (G : Fn) (ms : List Bool) (es : EL) : EO := fun env =>
  match es env with
  | none => none
  | some (rs, env1) => match argsOf env1 ms rs with
    | none => none
    | some as => if apart (ioIx ms rs) (borIx ms rs) = true then
        match G as with
        | none => none
        | some (.ok r outs) => match setOuts (ioIx ms rs) outs (if (r.flat && (ioIx ms rs).isEmpty) = true then env1 else fixAll (borIx ms rs) env1) with
          | none => none
          | some env2 => some (.val r env2)
        | some (.exc c ds outs) => match setOuts (ioIx ms rs) outs (fixAll (borIx ms rs) env1) with
          | none => none
          | some env2 => some (.exc c ds env2)
      else none
/-- a call that raises nothing -/
def eCall (G : Fn) (ms : List Bool) (es : EL) : E := fun env =>
  match eCallO G ms es env with
  | some (.val r env1) => some (r, env1)
  | _ => none
def sExprO (e : EO) : S := fun env =>
  match e env with
  | none => none
  | some (.val _ env1) => some (.nxt env1)
  | some (.exc c ds env1) => some (.exc c ds env1)
def sRetO (e : EO) : S := fun env =>
  match e env with
  | none => none
  | some (.val r env1) => some (.ret r env1)
  | some (.exc c ds env1) => some (.exc c ds env1)
def sSetO (i : Nat) (e : EO) : S := fun env =>
  match e env with
  | none => none
  | some (.val r env1) => sSet i (fun _ => some (r, env1)) env
  | some (.exc c ds env1) => some (.exc c ds env1)
end PV
namespace PV
/-- a target of any form = e -/
def sAsg (tg : Tg) (e : E) : S := fun env =>
  match e env with
  | none => none
  | some (r, env1) => match r.freeze env1 with
    | none => none
    | some (d, env2) => match tg.put d env2 with
      | none => none
      | some env3 => some (.nxt env3)
end PV
namespace PV
/-! ### exceptions -/
def noEx (env : Env) : Bool := env.all fun s => match s with
  | .ex _ _ => false
  | _ => true
/-- raise C(e, ..): the fields from the last one on -/
def sRaise (c : Nat) (es : EL) : S := fun env =>
  match es env with
  | none => none
  | some (rs, env1) => match freezeAll rs env1 with
    | none => none
    | some (ds, env2) => some (.exc c ds.reverse env2)
/-- e.f, e the exception in slot i -/
def eExF (i : Nat) (ix : Nat → Option Nat) : E := fun env =>
  match env[i]? with
  | some (.ex c ds) => match ix c with
    | some k => match ds[k]? with
      | some d => some (.fz d, env)
      | none => none
    | none => none
  | _ => none
/-- isinstance(e, D) -/
def eExIs (i : Nat) (t : Nat → Option Bool) : E := fun env =>
  match env[i]? with
  | some (.ex c _) => match t c with
    | some b => some (.fz (.bl b), env)
    | none => none
  | _ => none
/-- the suite of an except clause is left -/
def exitEx (i : Nat) : Out → Option Out
  | .nxt e => if noEx (e.set i .un) = true then some (.nxt (e.set i .un)) else none
  | .brk e => if noEx (e.set i .un) = true then some (.brk (e.set i .un)) else none
  | .cnt e => if noEx (e.set i .un) = true then some (.cnt (e.set i .un)) else none
  | .ret r e => if noEx (e.set i .un) = true then match r with
      | .bor j => if j = i then none else some (.ret (.bor j) (e.set i .un))
      | r => some (.ret r (e.set i .un))
    else none
  | .exc _ _ _ => none
/-- try: .. except C as n: ..; sel: which classes the clause names -/
def sTry (body : S) (sel : Nat → Option Bool) (i : Nat) (h : S) : S := fun env =>
  match body env with
  | none => none
  | some (.exc c ds env1) => match sel c with
    | none => none
    | some false => some (.exc c ds env1)
    | some true => if noEx env1 = true then match putSlot i (.ex c ds) env1 with
        | none => none
        | some env2 => match h env2 with
          | none => none
          | some o => exitEx i o
      else none
  | some o => some o
end PV
namespace PV
/-! ### trees -/
/-- a temporary tree never changes again -/
def eFz (e : E) : E := fun env =>
  match e env with
  | none => none
  | some (r, env1) => match r.freeze env1 with
    | none => none
    | some (d, env2) => some (.fz d, env2)
/-- what may be an item of a tree -/
def D.leaf : D → Bool
  | .lst _ => false
  | .scr _ => false
  | _ => true
/-- the items of a tree: own lists move into it -/
def moveAll : List RV → Env → Option (List D × Env)
  | [], env => some ([], env)
  | .fz d :: rs, env => if d.leaf = true then
      match moveAll rs env with
      | none => none
      | some (ds, env2) => some (d :: ds, env2)
    else none
  | .bor i :: rs, env => match env[i]? with
    | some (.own (.lst es)) => match moveAll rs (env.set i .un) with
      | none => none
      | some (ds, env2) => some (.lst es :: ds, env2)
    | some (.fz d) => if d.leaf = true then
        match moveAll rs env with
        | none => none
        | some (ds, env2) => some (d :: ds, env2)
      else none
    | _ => none
  | _, _ => none
def eTupT (es : EL) : E := fun env =>
  match es env with
  | none => none
  | some (rs, env1) => match moveAll rs env1 with
    | none => none
    | some (ds, env2) => if ds.length ≤ 16777216 then some (.tre (.tup ds), env2) else none
def eLstT (es : EL) : E := fun env =>
  match es env with
  | none => none
  | some (rs, env1) => match moveAll rs env1 with
    | none => none
    | some (ds, env2) => if ds.length ≤ 16777216 then some (.tre (.lst ds), env2) else none
/-- the items -/
def D.its : D → Option (List D)
  | .lst ds => some ds
  | .tup ds => some ds
  | _ => none
/-- with other items -/
def D.re : D → List D → D
  | .lst _, ds => .lst ds
  | .tup _, ds => .tup ds
  | d, _ => d
/-- slot i is a tree, its item at k a list -/
def treAt (env : Env) (i : Nat) (k : Int) : Option (D × List D × Nat × List D) :=
  match env[i]? with
  | some (.tre d) => match d.its with
    | none => none
    | some ds => match ixOf ds.length k with
      | none => none
      | some j => match ds[j]? with
        | some (.lst es) => some (d, ds, j, es)
        | _ => none
  | _ => none
def isTre (env : Env) (i : Nat) : Bool := match env[i]? with
  | some (.tre _) => true
  | _ => false
/-- t[ix], t in slot i: the item is held alone, the tree is gone -/
def eTake (i : Nat) (ix : E) : E := fun env =>
  if isTre env i = true then
    match ix env with
    | none => none
    | some (ri, env1) => match ri.peek env1 with
      | some (.int k) => match treAt env1 i k with
        | none => none
        | some (_, _, _, es) => some (.own (.lst es), env1.set i .un)
      | _ => none
  else none
/-- t[ix].method(..), t in slot i -/
def eMutT (fm : D → List D → Option (D × RV)) (i : Nat) (ix : E) (es : EL) : E := fun env =>
  if isTre env i = true then
    match ix env with
    | none => none
    | some (ri, env1) => match ri.peek env1 with
      | some (.int k) => match treAt env1 i k with
        | none => none
        | some (d, ds, j, ls) => match es (env1.set i .un) with
          | none => none
          | some (rs, env2) => match freezeAll rs env2 with
            | none => none
            | some (as, env3) => match fm (.lst ls) as with
              | some (.lst ls', res) => match putSlot i (.tre (d.re (ds.set j (.lst ls')))) env3 with
                | none => none
                | some env4 => some (res, env4)
              | _ => none
      | _ => none
  else none
end PV
end

section
namespace PV
set_option autoImplicit false

abbrev big : Nat := 16777216
def asInts : List D → Option (List Int)
  | [] => some []
  | .int i :: ds => match asInts ds with
    | none => none
    | some is => some (i :: is)
  | _ => none
def asBls : List D → Option (List Bool)
  | [] => some []
  | .bl b :: ds => match asBls ds with
    | none => none
    | some bs => some (b :: bs)
  | _ => none
def asStrs : List D → Option (List (List Nat))
  | [] => some []
  | .str b :: ds => match asStrs ds with
    | none => none
    | some bs => some (b :: bs)
  | _ => none
@[simp] theorem asInts_map (l : List Int) : asInts (l.map D.int) = some l := by
  induction l with
  | nil => rfl
  | cons a l ih => simp [asInts, ih]
@[simp] theorem asBls_map (l : List Bool) : asBls (l.map D.bl) = some l := by
  induction l with
  | nil => rfl
  | cons a l ih => simp [asBls, ih]
@[simp] theorem asStrs_map (l : List (List Nat)) : asStrs (l.map D.str) = some l := by
  induction l with
  | nil => rfl
  | cons a l ih => simp [asStrs, ih]

/-! ### == -/
mutual
def D.eqv : D → D → Bool
  | .non, .non => true
  | .bl a, .bl b => a == b
  | .bl a, .int j => (if a then 1 else 0) == j
  | .int i, .bl b => i == (if b then 1 else 0)
  | .int i, .int j => i == j
  | .str x, .str y => x == y
  | .lst xs, .lst ys => eqvL xs ys
  | .tup xs, .tup ys => eqvL xs ys
  | _, _ => false
def eqvL : List D → List D → Bool
  | [], [] => true
  | x :: xs, y :: ys => D.eqv x y && eqvL xs ys
  | _, _ => false
end
mutual
/-- no dicts, at most n deep -/
def D.shal : Nat → D → Bool
  | _, .non => true
  | _, .bl _ => true
  | _, .int _ => true
  | _, .str _ => true
  | 0, _ => false
  | n + 1, .lst xs => shalL n xs
  | n + 1, .tup xs => shalL n xs
  | _, _ => false
def shalL : Nat → List D → Bool
  | _, [] => true
  | n, x :: xs => x.shal n && shalL n xs
end
def dEq (a b : D) : Option RV := if (a.shal 40 && b.shal 40) = true then some (.fz (.bl (a.eqv b))) else none
def dNe (a b : D) : Option RV := if (a.shal 40 && b.shal 40) = true then some (.fz (.bl (!a.eqv b))) else none

/-! ### numbers -/
def mulOk (a b : Int) : Bool := decide (a.natAbs < 2 ^ 64) || decide (b.natAbs < 2 ^ 64) || decide (a.natAbs.log2 + b.natAbs.log2 < 1000000)
def dAdd : D → D → Option RV
  | .int a, .int b => some (.fz (.int (a + b)))
  | .str a, .str b => if a.length + b.length ≤ big then some (.fz (.str (a ++ b))) else none
  | .lst a, .lst b => if a.length + b.length ≤ big then some (.own (.lst (a ++ b))) else none
  | .tup a, .tup b => if a.length + b.length ≤ big then some (.fz (.tup (a ++ b))) else none
  | _, _ => none
def dSub : D → D → Option RV
  | .int a, .int b => some (.fz (.int (a - b)))
  | _, _ => none
def dMul : D → D → Option RV
  | .int a, .int b => if mulOk a b = true then some (.fz (.int (a * b))) else none
  | .lst a, .int k => if k.natAbs < 2 ^ 62 ∧ a.length * k.toNat ≤ big then some (.own (.lst (List.replicate k.toNat a).flatten)) else none
  | _, _ => none
def dDiv : D → D → Option RV
  | .int a, .int b => if 0 < b ∧ b.natAbs.log2 < 9000 then some (.fz (.int (a / b))) else none
  | _, _ => none
def dMod : D → D → Option RV
  | .int a, .int b => if 0 < b then some (.fz (.int (a % b))) else none
  | _, _ => none
def dPow : D → D → Option RV
  | .int a, .int b => if 0 ≤ b ∧ b ≤ 1000000 ∧ a.natAbs < 2 ^ 64 then some (.fz (.int (a ^ b.toNat))) else none
  | _, _ => none
def dNeg : D → Option RV
  | .int a => some (.fz (.int (-a)))
  | _ => none
def lexLt : List Int → List Int → Bool
  | [], [] => false
  | [], _ :: _ => true
  | _ :: _, [] => false
  | x :: xs, y :: ys => if x = y then lexLt xs ys else decide (x < y)
def dLt : D → D → Option RV
  | .int a, .int b => some (.fz (.bl (decide (a < b))))
  | .tup a, .tup b => match asInts a, asInts b with
    | some x, some y => some (.fz (.bl (lexLt x y)))
    | _, _ => none
  | _, _ => none
def dLe : D → D → Option RV
  | .int a, .int b => some (.fz (.bl (decide (a ≤ b))))
  | _, _ => none
def dGt : D → D → Option RV
  | .int a, .int b => some (.fz (.bl (decide (b < a))))
  | _, _ => none
def dGe : D → D → Option RV
  | .int a, .int b => some (.fz (.bl (decide (b ≤ a))))
  | .tup a, .tup b => match asInts a, asInts b with
    | some x, some y => some (.fz (.bl (!lexLt x y)))
    | _, _ => none
  | _, _ => none
def isNon : D → Bool
  | .non => true
  | _ => false
/-- x is None, x is not None -/
def dIsN (a b : D) : Option RV := if isNon b = true then some (.fz (.bl (isNon a))) else none
def dNotN (a b : D) : Option RV := if isNon b = true then some (.fz (.bl (!isNon a))) else none

/-! ### in, items, slices -/
def dInB : D → D → Option Bool
  | x, .lst ys => if (x.shal 40 && shalL 39 ys) = true then some (ys.any fun y => y.eqv x) else none
  | x, .tup ys => if (x.scal && ys.all D.scal) = true then some (ys.any fun y => y.eqv x) else none
  | .str [c], .str s => some (decide (c ∈ s))
  | _, _ => none
def dIn (x y : D) : Option RV := match dInB x y with
  | some b => some (.fz (.bl b))
  | none => none
def dNotIn (x y : D) : Option RV := match dInB x y with
  | some b => some (.fz (.bl (!b)))
  | none => none
def getAt {α : Type} (xs : List α) (i : Int) : Option α := (ixOf xs.length i).bind fun j => xs[j]?
def dIdx : D → D → Option RV
  | .lst xs, .int i => match getAt xs i with
    | some d => some (.fz d)
    | none => none
  | .tup xs, .int i => match getAt xs i with
    | some d => some (.fz d)
    | none => none
  | .str xs, .int i => match getAt xs i with
    | some d => some (.fz (.str [d]))
    | none => none
  | _, _ => none
/-- a slice's end -/
def cutIx (n d : Nat) : Option Int → Nat
  | none => d
  | some v => if v < 0 then (v + (n : Int)).toNat else min v.toNat n
def cut {α : Type} (xs : List α) (lo hi : Option Int) : List α := (xs.drop (cutIx xs.length 0 lo)).take (cutIx xs.length xs.length hi - cutIx xs.length 0 lo)
def dCut : D → Option Int → Option Int → Option RV
  | .lst xs, lo, hi => some (.own (.lst (cut xs lo hi)))
  | .tup xs, lo, hi => some (.fz (.tup (cut xs lo hi)))
  | .str xs, lo, hi => some (.fz (.str (cut xs lo hi)))
  | _, _, _ => none
/-- a part of a slice -/
abbrev EPart := Env → Option (Option Int × Env)
def pNo : EPart := fun env => some (none, env)
def pAt (e : E) : EPart := fun env =>
  match e env with
  | none => none
  | some (r, env1) => match r.peek env1 with
    | some (.int i) => some (some i, env1)
    | _ => none
def eCut (a : E) (lo hi : EPart) : E := fun env =>
  match a env with
  | none => none
  | some (ra, env1) => match lo env1 with
    | none => none
    | some (l, env2) => match hi env2 with
      | none => none
      | some (h, env3) => match ra.settle.peek env3 with
        | none => none
        | some c => match dCut c l h with
          | none => none
          | some q => some (q, env3)
def dRev : D → Option RV
  | .lst xs => some (.own (.lst xs.reverse))
  | _ => none

/-! ### built-ins -/
def dLen : List D → Option RV
  | [.lst xs] => some (.fz (.int xs.length))
  | [.tup xs] => some (.fz (.int xs.length))
  | [.str xs] => some (.fz (.int xs.length))
  | [.scr xs] => some (.fz (.int xs.length))
  | _ => none
def dAbs : List D → Option RV
  | [.int i] => some (.fz (.int (if i < 0 then -i else i)))
  | _ => none
def dInt : List D → Option RV
  | [.int i] => some (.fz (.int i))
  | [.bl b] => some (.fz (.int (if b then 1 else 0)))
  | _ => none
def dBool : List D → Option RV
  | [.int i] => some (.fz (.bl (i != 0)))
  | [.bl b] => some (.fz (.bl b))
  | _ => none
def maxI : List Int → Int
  | [] => 0
  | [a] => a
  | a :: b :: r => max a (maxI (b :: r))
def minI : List Int → Int
  | [] => 0
  | [a] => a
  | a :: b :: r => min a (minI (b :: r))
def dMax : List D → Option RV
  | [.int a, .int b] => some (.fz (.int (if b > a then b else a)))
  | [.lst ds] => match asInts ds with
    | some (a :: r) => some (.fz (.int (maxI (a :: r))))
    | _ => none
  | _ => none
def dMin : List D → Option RV
  | [.int a, .int b] => some (.fz (.int (if b < a then b else a)))
  | [.lst ds] => match asInts ds with
    | some (a :: r) => some (.fz (.int (minI (a :: r))))
    | _ => none
  | _ => none
def dSum : List D → Option RV
  | [.lst ds] => match asInts ds with
    | some is => some (.fz (.int is.sum))
    | _ => none
  | _ => none
def dAll : List D → Option RV
  | [.lst ds] => match asBls ds with
    | some bs => some (.fz (.bl (bs.all id)))
    | _ => none
  | _ => none
def dAny : List D → Option RV
  | [.lst ds] => match asBls ds with
    | some bs => some (.fz (.bl (bs.any id)))
    | _ => none
  | _ => none
def insI (x : Int) : List Int → List Int
  | [] => [x]
  | y :: ys => if x ≤ y then x :: y :: ys else y :: insI x ys
def sortI : List Int → List Int
  | [] => []
  | x :: xs => insI x (sortI xs)
def dSorted : List D → Option RV
  | [.lst ds] => match asInts ds with
    | some is => if is.length < 64 then some (.own (.lst ((sortI is).map D.int))) else none
    | _ => none
  | _ => none
def dTuple : List D → Option RV
  | [.lst ds] => some (.fz (.tup ds))
  | [.tup ds] => some (.fz (.tup ds))
  | _ => none
def dList : List D → Option RV
  | [.lst ds] => some (.own (.lst ds))
  | [.tup ds] => some (.own (.lst ds))
  | [.scr ns] => some (.own (.lst (ns.map D.int)))
  | _ => none
/-- isinstance of a written type -/
inductive Ty where
  | int | bool | str | list | tuple
def isiB : Ty → D → Option Bool
  | .int, .int _ => some true
  | .int, .bl _ => some true
  | .bool, .bl _ => some true
  | .str, .str _ => some true
  | .list, .lst _ => some true
  | .tuple, .tup _ => some true
  | _, .dic _ _ => none
  | _, .scr _ => none
  | _, _ => some false
def dIsi (t : Ty) (d : D) : Option RV := match isiB t d with
  | some b => some (.fz (.bl b))
  | none => none
/-- list(range(a, b)) -/
def rangeL (a b : Int) : List Int := (List.range (b - a).toNat).map fun i => a + (i : Nat)
def dListRange : List D → Option RV
  | [.int b] => if 0 ≤ b ∧ b.natAbs ≤ big then some (.own (.lst ((rangeL 0 b).map D.int))) else none
  | [.int a, .int b] => if 0 ≤ a ∧ a.natAbs ≤ big ∧ 0 ≤ b ∧ b.natAbs ≤ big then some (.own (.lst ((rangeL a b).map D.int))) else none
  | _ => none

/-! ### what is walked -/
def iVal (e : E) : I := fun env =>
  match e env with
  | none => none
  | some (r, env1) => match r.freeze env1 with
    | some (.lst ds, env2) => some (ds, env2)
    | some (.tup ds, env2) => some (ds, env2)
    | some (.str s, env2) => some (s.map fun c => D.str [c], env2)
    | _ => none
def iRange1 (a : E) : I := fun env =>
  match a env with
  | none => none
  | some (r, env1) => match r.peek env1 with
    | some (.int b) => if b.natAbs ≤ big then some ((rangeL 0 b).map D.int, env1) else none
    | _ => none
def iRange2 (es : EL) : I := fun env =>
  match es env with
  | none => none
  | some (rs, env1) => match peekAll env1 rs with
    | some [.int a, .int b] => if a.natAbs ≤ big ∧ b.natAbs ≤ big ∧ (b - a).toNat ≤ big then some ((rangeL a b).map D.int, env1) else none
    | _ => none
def enumL : Nat → List D → List D
  | _, [] => []
  | k, d :: ds => .tup [.int (k : Nat), d] :: enumL (k + 1) ds
def iEnum (e : E) : I := fun env =>
  match e env with
  | none => none
  | some (r, env1) => match r.freeze env1 with
    | some (.lst ds, env2) => some (enumL 0 ds, env2)
    | _ => none

/-! ### methods -/
def mAppend : D → List D → Option (D × RV)
  | .lst xs, [d] => if xs.length < big then some (.lst (xs ++ [d]), .fz .non) else none
  | _, _ => none
def mPopAt : D → List D → Option (D × RV)
  | .lst xs, [.int i] => if i.natAbs < 2 ^ 62 then
      match ixOf xs.length i with
      | none => none
      | some j => match xs[j]? with
        | none => none
        | some d => some (.lst (xs.eraseIdx j), .fz d)
    else none
  | _, _ => none
def setL : D → D → D → Option D
  | .lst xs, .int i, d => match ixOf xs.length i with
    | some j => some (.lst (xs.set j d))
    | none => none
  | _, _, _ => none
def getL : D → D → Option D
  | .lst xs, .int i => getAt xs i
  | _, _ => none
def addI : D → D → Option D
  | .int a, .int b => some (.int (a + b))
  | _, _ => none
def subI : D → D → Option D
  | .int a, .int b => some (.int (a - b))
  | _, _ => none
def joinS (sep : List Nat) : List (List Nat) → List Nat
  | [] => []
  | [x] => x
  | x :: y :: r => x ++ sep ++ joinS sep (y :: r)
def mJoin : D → List D → Option RV
  | .str a, [.lst ds] => match asStrs ds with
    | some ss => if (ss.map (·.length)).sum + ss.length * a.length ≤ big then some (.fz (.str (joinS a ss))) else none
    | none => none
  | _, _ => none
end PV
namespace PV
def idxOf (x : D) : List D → Nat → Option Nat
  | [], _ => none
  | y :: ys, k => if y.eqv x = true then some k else idxOf x ys (k + 1)
def mIndex : D → List D → Option RV
  | .lst ys, [x] => if (x.scal && ys.all D.scal) = true then
      match idxOf x ys 0 with
      | some j => some (.fz (.int (j : Nat)))
      | none => none
    else none
  | _, _ => none
end PV
namespace PV
def dIadd : D → D → Option RV
  | .int a, .int b => some (.fz (.int (a + b)))
  | .str a, .str b => if a.length + b.length ≤ big then some (.fz (.str (a ++ b))) else none
  | _, _ => none
end PV
end

section
set_option autoImplicit false
namespace PV
/-- nothing here changes any more -/
def frzS : Slot → Slot
  | .own d => .fz d
  | .io _ d => .fz d
  | .tre d => .fz d
  | s => s
/-- f is reckoned where nothing changes; what it gives is flat -/
def ePure (f : E) : E := fun env =>
  match f (env.map frzS) with
  | some (r, _) => if r.flat = true then some (r, env) else none
  | none => none
end PV
namespace PV
/-! ### bits, x is True, further methods -/
def dAnd : D → D → Option RV
  | .int a, .int b => if 0 ≤ a ∧ 0 ≤ b then some (.fz (.int ((a.toNat &&& b.toNat : Nat) : Int))) else none
  | _, _ => none
def dShr : D → D → Option RV
  | .int a, .int b => if 0 ≤ b then some (.fz (.int (a / 2 ^ b.toNat))) else none
  | _, _ => none
def dShl : D → D → Option RV
  | .int a, .int b => if 0 ≤ b ∧ b.toNat ≤ 100000 ∧ a.natAbs < 1000000 then some (.fz (.int (a * 2 ^ b.toNat))) else none
  | _, _ => none
def isBl (b : Bool) : D → Bool
  | .bl c => c == b
  | _ => false
def dIsB : D → D → Option RV
  | a, .bl b => some (.fz (.bl (isBl b a)))
  | _, _ => none
def dNotB : D → D → Option RV
  | a, .bl b => some (.fz (.bl (!isBl b a)))
  | _, _ => none
def mExtend : D → List D → Option (D × RV)
  | .lst xs, [.lst ys] => if xs.length + ys.length ≤ big then some (.lst (xs ++ ys), .fz .non) else none
  | _, _ => none
end PV
namespace PV
/-- s.count of one sign -/
def mCountS : D → List D → Option RV
  | .str a, [.str [c]] => some (.fz (.int ((a.count c : Nat) : Int)))
  | _, _ => none
end PV
namespace PV
/-! ### sorted of tuples of whole numbers, further methods -/
def asRows : List D → Option (List (List Int))
  | [] => some []
  | .tup (x :: xs) :: ds => match asInts (x :: xs), asRows ds with
    | some r, some rs => some (r :: rs)
    | _, _ => none
  | _ => none
def rowLe (a b : List Int) : Bool := decide (a ≤ b)
def sortR (rs : List (List Int)) : List (List Int) := rs.mergeSort rowLe
def rowD (r : List Int) : D := .tup (r.map D.int)
def dSortedV : List D → Option RV
  | [.lst ds] => match asInts ds with
    | some is => if is.length < 64 then some (.own (.lst ((sortI is).map D.int))) else none
    | none => match asRows ds with
      | some rs => if rs.length ≤ 16777216 then some (.own (.lst ((sortR rs).map rowD))) else none
      | none => none
  | _ => none
def mReverse : D → List D → Option (D × RV)
  | .lst xs, [] => some (.lst xs.reverse, .fz .non)
  | _, _ => none
def mClear : D → List D → Option (D × RV)
  | .lst _, [] => some (.lst [], .fz .non)
  | _, _ => none
end PV
namespace PV
/-! ### a loop over a list that stays held here -/
def tPure (t : T) : T := fun env => match t (env.map frzS) with
  | some (b, _) => some (b, env)
  | none => none
/-- for v in (slot i): if t: return r -/
def sForT (i v : Nat) (t : T) (r : D) : S := fun env => match env[i]? with
  | some (.own (.lst ds)) => if v ≠ i then forL (.nm v) (sIf (tPure t) (sRet (eC r)) sPass) ds env else none
  | _ => none
end PV
namespace PV
/-! ### written dicts of texts, replace, text * n, list(text), str(n) -/
abbrev Tab := List (List Nat × List Nat)
def tabGet (k : List Nat) : Tab → Option (List Nat)
  | [] => none
  | (a, b) :: r => if a = k then some b else tabGet k r
/-- d[k], d a dict of the module -/
def dKd (tab : Tab) : D → Option RV
  | .str k => match tabGet k tab with
    | some v => some (.fz (.str v))
    | none => none
  | _ => none
/-- {k: v, ..} -/
def eDicC (tab : Tab) : E := fun env => some (.own (.dic (tab.map fun kv => D.str kv.1) (tab.map fun kv => D.str kv.2)), env)
def dicGet (k : List Nat) : List D → List D → Option D
  | .str x :: ks, d :: ds => if x = k then some d else dicGet k ks ds
  | _, _ => none
def dDGet : D → D → Option RV
  | .dic ks ds, .str k => match dicGet k ks ds with
    | some d => some (.fz d)
    | none => none
  | _, _ => none
def dRepl (c : Nat) (z : List Nat) : D → Option RV
  | .str s => if s.length + (s.length + 1) * z.length ≤ 16777216 then some (.fz (.str (s.flatMap fun x => if x = c then z else [x]))) else none
  | _ => none
def dMulS : D → D → Option RV
  | .str s, .int k => if s.length ≤ 1000 ∧ k.natAbs ≤ 1000 then some (.fz (.str (List.replicate k.toNat s).flatten)) else none
  | _, _ => none
def dListV : List D → Option RV
  | [.lst ds] => some (.own (.lst ds))
  | [.tup ds] => some (.own (.lst ds))
  | [.scr ns] => some (.own (.lst (ns.map D.int)))
  | [.str s] => some (.own (.lst (s.map fun c => D.str [c])))
  | _ => none
/-- enumerate, over a list or a text -/
def iEnumV (e : E) : I := fun env =>
  match e env with
  | none => none
  | some (r, env1) => match r.freeze env1 with
    | some (.lst ds, env2) => some (enumL 0 ds, env2)
    | some (.str s, env2) => some (enumL 0 (s.map fun c => D.str [c]), env2)
    | _ => none
/-- str of a whole number -/
def dStr : List D → Option RV
  | [.int i] => if i.natAbs.log2 < 1920 ∧ ((toString i).toList.map Char.toNat).length ≤ 16777216 ∧ ((toString i).toList.map Char.toNat).all (· < 0x110000) = true then some (.fz (.str ((toString i).toList.map Char.toNat))) else none
  | _ => none
/-! ### f'..', split, startswith, upper -/
def dFmt : D → Option RV
  | .str s => some (.fz (.str s))
  | .int i => dStr [.int i]
  | _ => none
/-- the parts of a formatted text -/
def jsE : List E → List Nat → Env → Option (List Nat × Env)
  | [], acc, env => some (acc, env)
  | f :: fs, acc, env => match f env with
    | some (.fz (.str s), env1) => if acc.length + s.length ≤ 16777216 then jsE fs (acc ++ s) env1 else none
    | _ => none
def eJs (fs : List E) : E := fun env => match jsE fs [] env with
  | some (s, env1) => some (.fz (.str s), env1)
  | none => none
def splC (c : Nat) : List Nat → List Nat → List (List Nat)
  | acc, [] => [acc]
  | acc, x :: r => if x = c then acc :: splC c [] r else splC c (acc ++ [x]) r
def mSplit : D → List D → Option RV
  | .str a, [.str [c]] => if c < 256 ∧ a.length + 2 ≤ 16777216 then some (.own (.lst ((splC c [] a).map D.str))) else none
  | _, _ => none
def mStarts : D → List D → Option RV
  | .str a, [.str b] => some (.fz (.bl (decide (a.take b.length = b))))
  | _, _ => none
def upC (c : Nat) : Nat := if 97 ≤ c ∧ c ≤ 122 then c - 32 else c
def mUpper : D → List D → Option RV
  | .str a, [] => if a.length ≤ 5592405 ∧ a.all (· < 128) = true then some (.fz (.str (a.map upC))) else none
  | _, _ => none
end PV
end

section
set_option autoImplicit false
namespace PV
/-! ### comprehensions of two fors -/
def lcO (tg : Tg) (t : T) (it1 : I) (tg1 : Tg) (t1 : T) (elt : E) (vs vs1 : List Nat) : List D → List D → Env → Option (List D × Env)
  | [], acc, env => some (acc, env)
  | d :: ds, acc, env => match tg.put d (wipeE vs env) with
    | none => none
    | some env1 => match t env1 with
      | none => none
      | some (false, env2) => lcO tg t it1 tg1 t1 elt vs vs1 ds acc env2
      | some (true, env2) => match it1 env2 with
        | none => none
        | some (ds1, env3) => match lcL tg1 t1 elt vs1 ds1 acc env3 with
          | none => none
          | some (acc', env4) => lcO tg t it1 tg1 t1 elt vs vs1 ds acc' env4
def eLc2 (it : I) (tg : Tg) (t : T) (it1 : I) (tg1 : Tg) (t1 : T) (elt : E) (vs vs1 : List Nat) : E := fun env =>
  match it env with
  | none => none
  | some (ds, env1) => if wipeable vs env1 = true then
      match lcO tg t it1 tg1 t1 elt vs vs1 ds [] env1 with
      | none => none
      | some (xs, env2) => if xs.length ≤ 16777216 then some (.own (.lst xs), backE vs env1 env2) else none
    else none
theorem lcL_len {tg : Tg} {t : T} {elt : E} {vs : List Nat} : ∀ {ds acc : List D} {env : Env} {xs : List D} {e : Env}, lcL tg t elt vs ds acc env = some (xs, e) → acc.length ≤ xs.length
  | [], acc, env, xs, e, h => by cases h; exact Nat.le_refl _
  | d :: ds, acc, env, xs, e, h => by
    unfold lcL at h
    split at h
    · cases h
    · split at h
      · cases h
      · exact lcL_len h
      · split at h
        · cases h
        · split at h
          · cases h
          · have := lcL_len h; simp at this; omega
theorem lcO_len {tg : Tg} {t : T} {it1 : I} {tg1 : Tg} {t1 : T} {elt : E} {vs vs1 : List Nat} : ∀ {ds acc : List D} {env : Env} {xs : List D} {e : Env}, lcO tg t it1 tg1 t1 elt vs vs1 ds acc env = some (xs, e) → acc.length ≤ xs.length
  | [], acc, env, xs, e, h => by cases h; exact Nat.le_refl _
  | d :: ds, acc, env, xs, e, h => by
    unfold lcO at h
    split at h
    · cases h
    · split at h
      · cases h
      · exact lcO_len h
      · split at h
        · cases h
        · split at h
          · cases h
          · rename_i el
            exact Nat.le_trans (lcL_len el) (lcO_len h)
end PV
end

section
set_option autoImplicit false
namespace PV
def dGcd : List D → Option RV
  | [.int a, .int b] => some (.fz (.int ((Nat.gcd a.natAbs b.natAbs : Nat) : Int)))
  | _ => none
end PV
end

section
set_option autoImplicit false
namespace PV
/-! ### dicts with keys that are texts, whole numbers or tuples of these -/
def isK : D → Bool
  | .int _ => true
  | .str _ => true
  | _ => false
def keq : D → D → Bool
  | .int i, .int j => i == j
  | .str a, .str b => a == b
  | _, _ => false
def keqL : List D → List D → Bool
  | [], [] => true
  | x :: xs, y :: ys => keq x y && keqL xs ys
  | _, _ => false
def keqT (ds : List D) : D → Bool
  | .tup es => keqL es ds
  | _ => false
def isNonL : List D → Bool
  | .non :: _ => true
  | _ => false
def dicHas (x : D) (ks : List D) : Option Bool := match x with
  | .tup ds => if isNonL ks = true ∧ ds.all isK = true then some (ks.tail.any (keqT ds)) else none
  | d => if isNonL ks = false ∧ isK d = true then some (ks.any fun y => keq y d) else none
def dInX (x y : D) : Option RV := match y with
  | .dic ks _ => match dicHas x ks with
    | some b => some (.fz (.bl b))
    | none => none
  | y => dIn x y
def dNotInX (x y : D) : Option RV := match y with
  | .dic ks _ => match dicHas x ks with
    | some b => some (.fz (.bl (!b)))
    | none => none
  | y => dNotIn x y
/-- {(a, b): True, ..}, a, b names of whole numbers -/
def envI (env : Env) (i : Nat) : Option Int := match env[i]? with
  | some (.fz (.int a)) => some a
  | _ => none
def tabK (env : Env) : List (Nat × Nat × Bool) → Option (List (Int × Int × Bool))
  | [] => some []
  | (i, j, t) :: r => match envI env i, envI env j, tabK env r with
    | some a, some b, some l => some ((a, b, t) :: l)
    | _, _, _ => none
def eDicT (tab : List (Nat × Nat × Bool)) : E := fun env => match tabK env tab with
  | some l => if (l.map fun e => (e.1, e.2.1)).Nodup then some (.own (.dic (.non :: l.map fun e => D.tup [.int e.1, .int e.2.1]) (l.map fun e => D.bl e.2.2)), env) else none
  | none => none
/-- what is not reached -/
def sNo : S := fun _ => none
def eNo : E := fun _ => none
end PV
end

section
set_option autoImplicit false
namespace PV
/-! ### min of texts, texts times numbers beside the rest -/
def minL (x : List Nat) (xs : List (List Nat)) : List Nat := xs.foldl (fun a y => if decide (y < a) = true then y else a) x
def dMinX : List D → Option RV
  | [.lst ds] => match asStrs ds with
    | some (x :: xs) => some (.fz (.str (minL x xs)))
    | _ => dMin [.lst ds]
  | xs => dMin xs
def dMulX : D → D → Option RV
  | .str s, .int k => dMulS (.str s) (.int k)
  | x, y => dMul x y
end PV
end

section
namespace PV
set_option autoImplicit false
/-! sorted by a key that is written as a lambda over a list of numbers -/
inductive LK where
  | neg | negpair | pair
def lkLe : LK → (Int → Int) → Int → Int → Bool
  | .neg, g, p, q => decide (-g p ≤ -g q)
  | .negpair, g, p, q => decide (-g p < -g q ∨ (-g p = -g q ∧ p ≤ q))
  | .pair, g, p, q => decide (g p < g q ∨ (g p = g q ∧ p ≤ q))
/-- the numbers bs, sorted by what ys tells of them -/
def sortK (k : LK) (ys bs : List Int) : List Int := bs.mergeSort (lkLe k fun x => ys.getD x.toNat 0)
def inIx (ys bs : List Int) : Bool := bs.all fun x => decide (0 ≤ x) && decide (x < (ys.length : Int))
def eSortK (k : LK) (j : Nat) (es : EL) : E := fun env =>
  match es env with
  | none => none
  | some (rs, env1) => match peekAll env1 rs, (env1[j]?).bind Slot.d? with
    | some [.lst ds], some (.lst ks) => match asInts ds, asInts ks with
      | some bs, some ys => if inIx ys bs = true then some (.own (.lst ((sortK k ys bs).map D.int)), env1) else none
      | _, _ => none
    | _, _ => none
def eSortR (k : LK) (j : Nat) (es : EL) : E := fun env =>
  match es env with
  | none => none
  | some (rs, env1) => match peekAll env1 rs, (env1[j]?).bind Slot.d? with
    | some [.int n], some (.lst ks) => match asInts ks with
      | some ys => if 0 ≤ n ∧ n ≤ (ys.length : Int) then some (.own (.lst ((sortK k ys (rangeL 0 n)).map D.int)), env1) else none
      | _ => none
    | _, _ => none
end PV
end

section
namespace PV
set_option autoImplicit false
/-! min of rows of whole numbers -/
def asRowsL : List D → Option (List (List Int))
  | [] => some []
  | .lst xs :: ds => match asInts xs, asRowsL ds with
    | some r, some rs => some (r :: rs)
    | _, _ => none
  | _ => none
def asRowsT : List D → Option (List (List Int))
  | [] => some []
  | .tup xs :: ds => match asInts xs, asRowsT ds with
    | some r, some rs => some (r :: rs)
    | _, _ => none
  | _ => none
/-- the first difference decides, else the shorter is the less -/
def rowLt : List Int → List Int → Bool
  | [], [] => false
  | [], _ :: _ => true
  | _ :: _, [] => false
  | x :: xs, y :: ys => if x = y then rowLt xs ys else decide (x < y)
def minR (x : List Int) (xs : List (List Int)) : List Int := xs.foldl (fun a y => if rowLt y a = true then y else a) x
def dMinR : List D → Option RV
  | [.lst (.lst z :: ds)] => match asRowsL (.lst z :: ds) with
    | some (x :: xs) => some (.fz (.lst ((minR x xs).map D.int)))
    | _ => none
  | [.lst (.tup z :: ds)] => match asRowsT (.tup z :: ds) with
    | some (x :: xs) => some (.fz (.tup ((minR x xs).map D.int)))
    | _ => none
  | xs => dMin xs
end PV
end

section
namespace PV
set_option autoImplicit false
/-! range with a step; in a tuple of the module -/
def lenC (a b c : Int) : Nat := (if 0 < c then (if a < b then (b - a - 1) / c + 1 else 0) else (if b < a then (a - b - 1) / (-c) + 1 else 0)).toNat
def rangeC (a b c : Int) : List Int := (List.range (lenC a b c)).map fun (i : Nat) => a + (i : Int) * c
def iRange3 (es : EL) : I := fun env =>
  match es env with
  | none => none
  | some (rs, env1) => match peekAll env1 rs with
    | some [.int a, .int b, .int c] => if a.natAbs ≤ 1000000 ∧ b.natAbs ≤ 1000000 ∧ c.natAbs ≤ 1000 ∧ c ≠ 0 then some ((rangeC a b c).map D.int, env1) else none
    | _ => none
def dInC (neg : Bool) (ns : List Int) : D → Option RV
  | .int i => some (.fz (.bl (if neg = true then !(ns.contains i) else ns.contains i)))
  | _ => none
end PV
end

section
namespace PV
set_option autoImplicit false
def dOr : D → D → Option RV
  | .int a, .int b => if 0 ≤ a ∧ 0 ≤ b then some (.fz (.int ((a.toNat ||| b.toNat : Nat) : Int))) else none
  | _, _ => none
end PV
end

section
namespace PV
set_option autoImplicit false
/-! zip of two lists, with or without numbers -/
def zipL : List D → List D → List D
  | x :: xs, y :: ys => .tup [x, y] :: zipL xs ys
  | _, _ => []
def iZip2 (es : EL) : I := fun env =>
  match es env with
  | none => none
  | some (rs, env1) => match freezeAll rs env1 with
    | some ([.lst xs, .lst ys], env2) => if xs.length ≤ 1000 ∧ ys.length ≤ 1000 then some (zipL xs ys, env2) else none
    | _ => none
def iEnumZ (es : EL) : I := fun env =>
  match es env with
  | none => none
  | some (rs, env1) => match freezeAll rs env1 with
    | some ([.lst xs, .lst ys], env2) => if xs.length ≤ 1000 ∧ ys.length ≤ 1000 then some (enumL 0 (zipL xs ys), env2) else none
    | _ => none
end PV
end

section
namespace PV
set_option autoImplicit false
/-- sorted(xs, reverse=True), whole numbers -/
def dSortedR : List D → Option RV
  | [.lst ds] => match asInts ds with
    | some is => if is.length < 64 then some (.own (.lst ((sortI is).reverse.map D.int))) else none
    | _ => none
  | _ => none
end PV
end

section
set_option autoImplicit false
namespace PV
/-! ### the order of plain data of one form -/
mutual
/-- may be compared -/
def D.alk : D → D → Bool
  | .bl _, .bl _ => true
  | .int _, .int _ => true
  | .str _, .str _ => true
  | .lst xs, .lst ys => alkL xs ys
  | .tup xs, .tup ys => alkL xs ys
  | _, _ => false
def alkL : List D → List D → Bool
  | x :: xs, y :: ys => x.alk y && alkL xs ys
  | _, _ => true
end
mutual
def D.ltD : D → D → Bool
  | .bl a, .bl b => !a && b
  | .int a, .int b => decide (a < b)
  | .str a, .str b => decide (a < b)
  | .lst xs, .lst ys => ltL xs ys
  | .tup xs, .tup ys => ltL xs ys
  | _, _ => false
/-- the first difference decides, else the shorter is the less -/
def ltL : List D → List D → Bool
  | [], [] => false
  | [], _ :: _ => true
  | _ :: _, [] => false
  | x :: xs, y :: ys => if x.eqv y = true then ltL xs ys else x.ltD y
end
def okG (a b : D) : Bool := a.shal 40 && b.shal 40 && a.alk b
def dLtG (a b : D) : Option RV := if okG a b = true then some (.fz (.bl (a.ltD b))) else none
def dGtG (a b : D) : Option RV := if okG a b = true then some (.fz (.bl (b.ltD a))) else none
def dLeG (a b : D) : Option RV := if okG a b = true then some (.fz (.bl (!b.ltD a))) else none
def dGeG (a b : D) : Option RV := if okG a b = true then some (.fz (.bl (!a.ltD b))) else none
/-- any two may be compared -/
def allG (ds : List D) : Bool := ds.all fun a => ds.all fun b => okG a b
def minG (x : D) (xs : List D) : D := xs.foldl (fun a y => if y.ltD a = true then y else a) x
def maxG (x : D) (xs : List D) : D := xs.foldl (fun a y => if a.ltD y = true then y else a) x
def dMinG : List D → Option RV
  | [.lst (x :: xs)] => if allG (x :: xs) = true then some (.fz (minG x xs)) else none
  | _ => none
def dMaxG : List D → Option RV
  | [.lst (x :: xs)] => if allG (x :: xs) = true then some (.fz (maxG x xs)) else none
  | _ => none
/-- a tuple with a first item -/
def tup1 : D → Bool
  | .tup (_ :: _) => true
  | _ => false
def notTup : D → Bool
  | .tup _ => false
  | _ => true
def leG (rev : Bool) (a b : D) : Bool := cond rev (!a.ltD b) (!b.ltD a)
def sortG (rev : Bool) (ds : List D) : List D := ds.mergeSort (leG rev)
def dSortG (rev : Bool) : List D → Option RV
  | [.lst ds] => if allG ds = true ∧ (ds.all tup1 = true ∨ ds.all notTup = true) ∧ ds.length ≤ 16777216 then some (.own (.lst (sortG rev ds))) else none
  | _ => none
end PV
end

section
set_option maxRecDepth 100000
namespace PV
open PySem PySem.Spec PyProof.Rows L2
/-- the tables of code objects that may grow -/
class CodeTabs where
  T : List NdefX.NTab

/-! ### what a value is in a heap -/
def okS (s : List Nat) : Bool := decide (s.length ≤ 16777216) && s.all (· < 0x110000)
def kD : Key → D
  | .inl i => .int i
  | .inr x => .str x.cps.toList
section
variable (K : PySem.W.Frag)
mutual
def R (F : Hp) : D → V → Prop
  | .non, v => v = .non
  | .bl b, v => v = .bl b
  | .int i, v => v = .int i
  | .str s, v => v = .str ⟨s.toArray⟩ ∧ okS s = true
  | .lst ds, v => ∃ a vs, v = .ref a ∧ F a = some (.lst vs) ∧ RL F ds vs
  | .tup ds, v => ∃ a vs, v = .ref a ∧ F a = some (.tup vs) ∧ RL F ds vs
  | .dic ks ds, v => ∃ a, v = .ref a ∧ ((∃ kvs : List (Key × V), F a = some (.dK kvs) ∧ ks = kvs.map (fun p => kD p.1) ∧ RL F ds (kvs.map (·.2))) ∨
      (∃ kvs : List (List Key × V), F a = some (.dT kvs) ∧ ks = D.non :: kvs.map (fun p => D.tup (p.1.map kD)) ∧ RL F ds (kvs.map (·.2))))
  | .scr ns, v => ∃ a, v = .ref a ∧ SqL K F a (ns.map V.int)
def RL (F : Hp) : List D → List V → Prop
  | [], vs => vs = []
  | d :: ds, vs => ∃ v r, vs = v :: r ∧ R F d v ∧ RL F ds r
end
/-- an object that may change: a list or a dict whose members are values -/
def ObjR (F : Hp) : HO → D → Prop
  | .lst vs, .lst ds => RL K F ds vs
  | .dK kvs, .dic ks ds => ks = kvs.map (fun p => kD p.1) ∧ RL K F ds (kvs.map (·.2))
  | .dT kvs, .dic ks ds => ks = D.non :: kvs.map (fun p => D.tup (p.1.map kD)) ∧ RL K F ds (kvs.map (·.2))
  | _, _ => False
/-- a value seen: its top object may be one that changes later -/
def PVal (F H : Hp) (d : D) (v : V) : Prop := R K F d v ∨ ∃ a ho, v = .ref a ∧ H a = some ho ∧ ObjR K F ho d
end

section
variable {K : PySem.W.Frag} {F F' H H' : Hp}
theorem Same.seqT {a : Addr} {xs : List V} (e : Same F F') (h : SqT K F a xs) : SqT K F' a xs := by
  rcases h with (h | ⟨o, h⟩) | h
  · exact .inl (.inl (e _ _ h))
  · exact .inl (.inr ⟨o, e _ _ h⟩)
  · exact .inr h
mutual
theorem R.mono (e : Same F F') : ∀ (d : D) (v : V), R K F d v → R K F' d v
  | .non, _, h => by unfold R at h ⊢; exact h
  | .bl _, _, h => by unfold R at h ⊢; exact h
  | .int _, _, h => by unfold R at h ⊢; exact h
  | .str _, _, h => by unfold R at h ⊢; exact h
  | .lst ds, _, h => by
    unfold R at h ⊢
    obtain ⟨a, vs, h1, h2, h3⟩ := h
    exact ⟨a, vs, h1, e _ _ h2, RL.mono e ds vs h3⟩
  | .tup ds, _, h => by
    unfold R at h ⊢
    obtain ⟨a, vs, h1, h2, h3⟩ := h
    exact ⟨a, vs, h1, e _ _ h2, RL.mono e ds vs h3⟩
  | .dic ks ds, _, h => by
    unfold R at h ⊢
    obtain ⟨a, h1, ⟨kvs, h2, h3, h4⟩ | ⟨kvs, h2, h3, h4⟩⟩ := h
    · exact ⟨a, h1, .inl ⟨kvs, e _ _ h2, h3, RL.mono e ds _ h4⟩⟩
    · exact ⟨a, h1, .inr ⟨kvs, e _ _ h2, h3, RL.mono e ds _ h4⟩⟩
  | .scr ns, _, h => by
    unfold R at h ⊢
    obtain ⟨a, h1, h2⟩ := h
    exact ⟨a, h1, Same.seq e h2⟩
theorem RL.mono (e : Same F F') : ∀ (ds : List D) (vs : List V), RL K F ds vs → RL K F' ds vs
  | [], _, h => by unfold RL at h ⊢; exact h
  | d :: ds, _, h => by
    unfold RL at h ⊢
    obtain ⟨v, r, h1, h2, h3⟩ := h
    exact ⟨v, r, h1, R.mono e d v h2, RL.mono e ds r h3⟩
end
theorem ObjR.mono (e : Same F F') {ho : HO} {d : D} (h : ObjR K F ho d) : ObjR K F' ho d := by
  unfold ObjR at h ⊢
  split at h
  · exact RL.mono e _ _ h
  · exact ⟨h.1, RL.mono e _ _ h.2⟩
  · exact ⟨h.1, RL.mono e _ _ h.2⟩
  · exact h.elim
/-- an object that lies in F is a value -/
theorem R.of_obj {a : Addr} {ho : HO} {d : D} (h : F a = some ho) (o : ObjR K F ho d) : R K F d (.ref a) := by
  unfold ObjR at o
  split at o
  · unfold R; exact ⟨a, _, rfl, h, o⟩
  · unfold R; exact ⟨a, rfl, .inl ⟨_, h, o.1, o.2⟩⟩
  · unfold R; exact ⟨a, rfl, .inr ⟨_, h, o.1, o.2⟩⟩
  · exact o.elim
theorem upd_Same {a : Addr} {ho : HO} (h : F a = none) : Same F (upd F a ho) := fun b o e => by
  rw [upd_ne (ne_of_none e h)]; exact e
theorem Same.upd_r {a : Addr} {ho : HO} (h : F a = none) (s : Same F H) : Same F (upd H a ho) := fun b o e => by
  rw [upd_ne (ne_of_none e h)]; exact s _ _ e
theorem Same.upd_l {a : Addr} {ho : HO} (h : H a = some ho) (s : Same F H) : Same (upd F a ho) H := fun b o e => by
  by_cases q : b = a
  · subst q; rw [upd_same] at e; cases e; exact h
  · rw [upd_ne q] at e; exact s _ _ e
theorem RL.length : ∀ (ds : List D) (vs : List V), RL K F ds vs → ds.length = vs.length
  | [], _, h => by unfold RL at h; subst h; rfl
  | d :: ds, _, h => by
    unfold RL at h
    obtain ⟨v, r, rfl, _, h3⟩ := h
    simp [RL.length ds r h3]
theorem RL.append : ∀ {ds es : List D} {vs ws : List V}, RL K F ds vs → RL K F es ws → RL K F (ds ++ es) (vs ++ ws)
  | [], _, _, _, h, h' => by unfold RL at h; subst h; exact h'
  | d :: ds, es, _, ws, h, h' => by
    unfold RL at h
    obtain ⟨v, r, rfl, h2, h3⟩ := h
    show RL K F (d :: (ds ++ es)) (v :: (r ++ ws))
    unfold RL
    exact ⟨v, _, rfl, h2, RL.append h3 h'⟩
theorem RL.get : ∀ {ds : List D} {vs : List V} {i : Nat} {d : D}, RL K F ds vs → ds[i]? = some d → ∃ v, vs[i]? = some v ∧ R K F d v
  | [], _, _, _, _, e => by simp at e
  | d :: ds, _, 0, _, h, e => by
    unfold RL at h
    obtain ⟨v, r, rfl, h2, h3⟩ := h
    simp at e; subst e
    exact ⟨v, rfl, h2⟩
  | d :: ds, _, i + 1, x, h, e => by
    unfold RL at h
    obtain ⟨v, r, rfl, h2, h3⟩ := h
    obtain ⟨w, q1, q2⟩ := RL.get (i := i) (d := x) h3 (by simpa using e)
    exact ⟨w, by simpa using q1, q2⟩
theorem RL.nil : RL K F [] [] := by unfold RL; rfl
theorem RL.cons {d : D} {v : V} {ds : List D} {vs : List V} (h : R K F d v) (h' : RL K F ds vs) : RL K F (d :: ds) (v :: vs) := by
  unfold RL; exact ⟨v, vs, rfl, h, h'⟩
theorem RL.take : ∀ (n : Nat) {ds : List D} {vs : List V}, RL K F ds vs → RL K F (ds.take n) (vs.take n)
  | 0, _, _, _ => by simp; exact RL.nil
  | n + 1, [], _, h => by unfold RL at h; subst h; simp; exact RL.nil
  | n + 1, d :: ds, _, h => by
    unfold RL at h
    obtain ⟨v, r, rfl, h2, h3⟩ := h
    exact RL.cons h2 (RL.take n h3)
theorem RL.drop : ∀ (n : Nat) {ds : List D} {vs : List V}, RL K F ds vs → RL K F (ds.drop n) (vs.drop n)
  | 0, _, _, h => h
  | n + 1, [], _, h => by unfold RL at h; subst h; simp; exact RL.nil
  | n + 1, d :: ds, _, h => by
    unfold RL at h
    obtain ⟨v, r, rfl, h2, h3⟩ := h
    exact RL.drop n h3
theorem RL.set {d : D} {v : V} (h : R K F d v) : ∀ (n : Nat) {ds : List D} {vs : List V}, RL K F ds vs → RL K F (ds.set n d) (vs.set n v)
  | _, [], _, h' => by unfold RL at h'; subst h'; exact RL.nil
  | 0, _ :: ds, _, h' => by
    unfold RL at h'
    obtain ⟨w, r, rfl, h2, h3⟩ := h'
    exact RL.cons h h3
  | n + 1, _ :: ds, _, h' => by
    unfold RL at h'
    obtain ⟨w, r, rfl, h2, h3⟩ := h'
    exact RL.cons h2 (RL.set h n h3)
theorem RL.reverse {ds : List D} {vs : List V} (h : RL K F ds vs) : RL K F ds.reverse vs.reverse := by
  induction ds generalizing vs with
  | nil => unfold RL at h; subst h; exact RL.nil
  | cons d ds ih =>
    unfold RL at h
    obtain ⟨v, r, rfl, h2, h3⟩ := h
    rw [List.reverse_cons, List.reverse_cons]
    exact RL.append (ih h3) (RL.cons h2 RL.nil)
theorem RL.eraseIdx : ∀ (n : Nat) {ds : List D} {vs : List V}, RL K F ds vs → RL K F (ds.eraseIdx n) (vs.eraseIdx n)
  | _, [], _, h => by unfold RL at h; subst h; exact RL.nil
  | 0, d :: ds, _, h => by
    unfold RL at h
    obtain ⟨v, r, rfl, h2, h3⟩ := h
    exact h3
  | n + 1, d :: ds, _, h => by
    unfold RL at h
    obtain ⟨v, r, rfl, h2, h3⟩ := h
    exact RL.cons h2 (RL.eraseIdx n h3)
end

/-! ### the state of a def's body -/
/-- the exception that a suite holds: where, which, its class, its dict, its fields -/
structure Ea where
  a : Addr
  c : Nat
  cls : Value
  d : Option Addr
  names : List Str
/-- F₀: what was given and does not change; H₀: all that was there; io: the objects that this def changes -/
structure Act where
  F : Hp
  H : Hp
  io : List Addr
  ea : Option Ea
/-- no tables of code objects -/
def NoTbl (F : Hp) : Prop := ∀ b ps, F b ≠ some (.tbl ps)

abbrev St := L2.St
/-- what an exception's fields are -/
def FldOk (K : PySem.W.Frag) (F : Hp) (names : List Str) (ds : List D) (d : Option Addr) : Prop :=
  (names = [] ∧ ds = [] ∧ d = none) ∨ ∃ da vs, d = some da ∧ F da = some (.xd (names.zip vs)) ∧ RL K F ds vs ∧ names.length = vs.length
theorem FldOk.mono {K : PySem.W.Frag} {F F' : Hp} {names : List Str} {ds : List D} {d : Option Addr} (e : Same F F') (h : FldOk K F names ds d) : FldOk K F' names ds d := by
  rcases h with h | ⟨da, vs, h1, h2, h3, h4⟩
  · exact .inl h
  · exact .inr ⟨da, vs, h1, e _ _ h2, RL.mono e _ _ h3, h4⟩
inductive SlotOk (K : PySem.W.Frag) (φ : Act) (F H : Hp) : Slot → Option (Option V) → Prop
  | un {o : Option (Option V)} : SlotOk K φ F H .un o
  | fz {d : D} {v : V} : R K F d v → SlotOk K φ F H (.fz d) (some (some v))
  | own {d : D} {a : Addr} {ho : HO} : H a = some ho → ObjR K F ho d → F a = none → φ.H a = none → SlotOk K φ F H (.own d) (some (some (.ref a)))
  | io {k : Nat} {d : D} {a : Addr} {ho : HO} : φ.io[k]? = some a → H a = some ho → ObjR K F ho d → F a = none → SlotOk K φ F H (.io k d) (some (some (.ref a)))
  | ex {c : Nat} {ds : List D} {e : Ea} : φ.ea = some e → e.c = c → FldOk K F e.names ds e.d → SlotOk K φ F H (.ex c ds) (some (some (.ref e.a)))
  | tre {d : D} {o : Option (Option V)} : SlotOk K φ F H (.tre d) o

def Slot.held : Slot → Bool
  | .own _ => true
  | .io _ _ => true
  | _ => false

/-! ### trees: an object held alone whose items that are lists are held alone too -/
def ItmOk (K : PySem.W.Frag) (φ : Act) (F H : Hp) (d : D) (w : V) (l : List Addr) : Prop :=
  (∃ es b ws, d = .lst es ∧ w = .ref b ∧ H b = some (.lst ws) ∧ F b = none ∧ φ.H b = none ∧ RL K F es ws ∧ l = [b]) ∨ (d.leaf = true ∧ R K F d w ∧ l = [])
inductive ItmsOk (K : PySem.W.Frag) (φ : Act) (F H : Hp) : List D → List V → List Addr → Prop
  | nil : ItmsOk K φ F H [] [] []
  | cons {d : D} {w : V} {l ls : List Addr} {ds : List D} {ws : List V} : ItmOk K φ F H d w l → ItmsOk K φ F H ds ws ls → ItmsOk K φ F H (d :: ds) (w :: ws) (l ++ ls)
def TObj (d : D) (ds : List D) (vs : List V) (ho : HO) : Prop := (d = .lst ds ∧ ho = .lst vs) ∨ (d = .tup ds ∧ ho = .tup vs)
def TreV (K : PySem.W.Frag) (φ : Act) (F H : Hp) (d : D) (v : V) (fp : List Addr) : Prop :=
  ∃ a ds vs ho ls, v = .ref a ∧ H a = some ho ∧ TObj d ds vs ho ∧ F a = none ∧ φ.H a = none ∧ ItmsOk K φ F H ds vs ls ∧ fp = a :: ls ∧ fp.Nodup
def TreAll (K : PySem.W.Frag) (φ : Act) (F H : Hp) (env : Env) (σ : St) : Prop :=
  ∀ (i : Nat) (d : D), env[i]? = some (.tre d) → ∃ v fp, σ[i]? = some (some v) ∧ TreV K φ F H d v fp ∧
    (∀ (j : Nat) (s : Slot) (a : Addr), env[j]? = some s → s.held = true → σ[j]? = some (some (.ref a)) → a ∉ fp) ∧
    ∀ (j : Nat) (d' : D) (v' : V) (fp' : List Addr), j ≠ i → env[j]? = some (.tre d') → σ[j]? = some (some v') → TreV K φ F H d' v' fp' → ∀ a, a ∈ fp → a ∉ fp'
/-- the object at a belongs to no tree -/
def NoTre (K : PySem.W.Frag) (φ : Act) (F H : Hp) (env : Env) (σ : St) (a : Addr) : Prop :=
  ∀ (i : Nat) (d : D) (v : V) (fp : List Addr), env[i]? = some (.tre d) → σ[i]? = some (some v) → TreV K φ F H d v fp → a ∉ fp
section
variable {K : PySem.W.Frag} {φ φ' : Act} {F F' H H' : Hp} {env env' : Env} {σ σ' : St}
theorem ItmOk.unique {d : D} {w : V} {l l' : List Addr} (h : ItmOk K φ F H d w l) (h' : ItmOk K φ F H d w l') : l = l' := by
  rcases h with ⟨es, b, ws, rfl, rfl, _, _, _, _, rfl⟩ | ⟨h1, _, rfl⟩
  · rcases h' with ⟨es', b', ws', e1, e2, _, _, _, _, rfl⟩ | ⟨h1, _, _⟩
    · cases e2; rfl
    · cases h1
  · rcases h' with ⟨es', b', ws', rfl, e2, _, _, _, _, rfl⟩ | ⟨h1, _, rfl⟩
    · cases h1
    · rfl
theorem ItmsOk.unique {ds : List D} {ws : List V} {ls ls' : List Addr} (h : ItmsOk K φ F H ds ws ls) (h' : ItmsOk K φ F H ds ws ls') : ls = ls' := by
  induction h generalizing ls' with
  | nil => cases h'; rfl
  | cons h t ih =>
    cases h' with
    | cons g t' => rw [h.unique g, ih t']
theorem TreV.unique {d : D} {v : V} {fp fp' : List Addr} (h : TreV K φ F H d v fp) (h' : TreV K φ F H d v fp') : fp = fp' := by
  obtain ⟨a, ds, vs, ho, ls, rfl, h1, h2, _, _, h3, rfl, _⟩ := h
  obtain ⟨a', ds', vs', ho', ls', e, h1', h2', _, _, h3', rfl, _⟩ := h'
  cases e
  rw [h1] at h1'; cases h1'
  rcases h2 with ⟨rfl, rfl⟩ | ⟨rfl, rfl⟩ <;> rcases h2' with ⟨e1, e2⟩ | ⟨e1, e2⟩ <;> cases e1 <;> cases e2 <;> rw [h3.unique h3']
/-- an object of a tree -/
def TMem (φ : Act) (F H : Hp) (b : Addr) : Prop := F b = none ∧ φ.H b = none ∧ ∃ ho, H b = some ho ∧ (∀ ps, ho ≠ .tbl ps) ∧ ∀ Q, ho ≠ .ext Q
theorem ItmsOk.mem {ds : List D} {ws : List V} {ls : List Addr} (h : ItmsOk K φ F H ds ws ls) {b : Addr} (hb : b ∈ ls) : TMem φ F H b := by
  induction h with
  | nil => cases hb
  | cons h t ih =>
    rcases List.mem_append.mp hb with hb | hb
    · rcases h with ⟨es, b', ws', rfl, rfl, g1, g2, g3, _, rfl⟩ | ⟨_, _, rfl⟩
      · cases List.mem_singleton.mp hb
        exact ⟨g2, g3, _, g1, fun ps q => (nomatch q), fun ps q => (nomatch q)⟩
      · cases hb
    · exact ih hb
theorem TreV.mem {d : D} {v : V} {fp : List Addr} (h : TreV K φ F H d v fp) {b : Addr} (hb : b ∈ fp) : TMem φ F H b := by
  obtain ⟨a, ds, vs, ho, ls, rfl, h1, h2, h4, h5, h3, rfl, _⟩ := h
  rcases List.mem_cons.mp hb with rfl | hb
  · refine ⟨h4, h5, _, h1, ?_, ?_⟩ <;> intro ps q <;> rcases h2 with ⟨_, rfl⟩ | ⟨_, rfl⟩ <;> cases q
  · exact h3.mem hb
theorem ItmsOk.move {ds : List D} {ws : List V} {ls : List Addr} (h : ItmsOk K φ F H ds ws ls) (s : Same F F') (k : ∀ b, b ∈ ls → F' b = none ∧ H' b = H b ∧ φ'.H b = none) : ItmsOk K φ' F' H' ds ws ls := by
  induction h with
  | nil => exact .nil
  | cons h t ih =>
    refine .cons ?_ (ih fun b hb => k b (List.mem_append_right _ hb))
    rcases h with ⟨es, b', ws', rfl, rfl, g1, g2, g3, g4, rfl⟩ | ⟨h1, h2, rfl⟩
    · obtain ⟨k1, k2, k3⟩ := k b' (by simp)
      exact .inl ⟨es, b', ws', rfl, rfl, by rw [k2]; exact g1, k1, k3, RL.mono s _ _ g4, rfl⟩
    · exact .inr ⟨h1, R.mono s _ _ h2, rfl⟩
theorem TreV.move {d : D} {v : V} {fp : List Addr} (h : TreV K φ F H d v fp) (s : Same F F') (k : ∀ b, b ∈ fp → F' b = none ∧ H' b = H b ∧ φ'.H b = none) : TreV K φ' F' H' d v fp := by
  obtain ⟨a, ds, vs, ho, ls, rfl, h1, h2, h4, h5, h3, rfl, h6⟩ := h
  obtain ⟨k1, k2, k3⟩ := k a List.mem_cons_self
  exact ⟨a, ds, vs, ho, ls, rfl, by rw [k2]; exact h1, h2, k1, k3, h3.move s fun b hb => k b (List.mem_cons_of_mem _ hb), rfl, h6⟩
/-- trees stay -/
theorem TreAll.move (t : TreAll K φ F H env σ) (s : Same F F') (he : ∀ (i : Nat) (d : D), env'[i]? = some (.tre d) → env[i]? = some (.tre d) ∧ σ'[i]? = σ[i]?)
    (hk : ∀ (i : Nat) (d : D) (v : V) (fp : List Addr) (b : Addr), env[i]? = some (.tre d) → σ[i]? = some (some v) → TreV K φ F H d v fp → b ∈ fp → F' b = none ∧ H' b = H b ∧ φ'.H b = none)
    (hh : ∀ (i : Nat) (d : D) (v : V) (fp : List Addr) (j : Nat) (u : Slot) (a : Addr), env[i]? = some (.tre d) → σ[i]? = some (some v) → TreV K φ F H d v fp → env'[j]? = some u → u.held = true → σ'[j]? = some (some (.ref a)) → a ∈ fp → ∃ w, env[j]? = some w ∧ w.held = true ∧ σ[j]? = some (some (.ref a))) :
    TreAll K φ' F' H' env' σ' := by
  intro i d e
  obtain ⟨e1, e2⟩ := he i d e
  obtain ⟨v, fp, h1, h2, h3, h4⟩ := t i d e1
  refine ⟨v, fp, by rw [e2]; exact h1, h2.move s fun b hb => hk i d v fp b e1 h1 h2 hb, fun j u a ej hu ha hm => ?_, fun j d' v' fp' ne ej hv ht a ha => ?_⟩
  · obtain ⟨w, w1, w2, w3⟩ := hh i d v fp j u a e1 h1 h2 ej hu ha hm
    exact h3 j w a w1 w2 w3 hm
  · obtain ⟨j1, j2⟩ := he j d' ej
    rw [j2] at hv
    obtain ⟨v2, fp2, g1, g2, _, _⟩ := t j d' j1
    rw [hv] at g1; cases g1
    have g3 : TreV K φ' F' H' d' v' fp2 := g2.move s fun b hb => hk j d' v' fp2 b j1 hv g2 hb
    rw [ht.unique g3]
    exact h4 j d' v' fp2 ne j1 hv g2 a ha
theorem NoTre.move {a : Addr} (n : NoTre K φ F H env σ a) (t : TreAll K φ F H env σ) (s : Same F F') (he : ∀ (i : Nat) (d : D), env'[i]? = some (.tre d) → env[i]? = some (.tre d) ∧ σ'[i]? = σ[i]?)
    (hk : ∀ (i : Nat) (d : D) (v : V) (fp : List Addr) (b : Addr), env[i]? = some (.tre d) → σ[i]? = some (some v) → TreV K φ F H d v fp → b ∈ fp → F' b = none ∧ H' b = H b ∧ φ'.H b = none) :
    NoTre K φ' F' H' env' σ' a := by
  intro i d v fp e hv ht
  obtain ⟨e1, e2⟩ := he i d e
  rw [e2] at hv
  obtain ⟨v2, fp2, h1, h2, _, _⟩ := t i d e1
  rw [hv] at h1; cases h1
  rw [ht.unique (h2.move s fun b hb => hk i d v fp2 b e1 hv h2 hb)]
  exact n i d v fp2 e1 hv h2
end

structure Rel [CodeTabs] (K : PySem.W.Frag) (φ : Act) (F : Hp) (env : Env) (σ : St) (H : Hp) : Prop where
  sub : Same F H
  old : Same φ.F F
  pres : ∀ b o, φ.H b = some o → b ∉ φ.io → (∀ ps, o ≠ .tbl ps) → H b = some o
  new : ∀ b o, F b = some o → φ.F b = some o ∨ φ.H b = none
  slot : ∀ (i : Nat) (s : Slot), env[i]? = some s → SlotOk K φ F H s σ[i]?
  dist : ∀ (i j : Nat) (s t : Slot) (a : Addr), i ≠ j → env[i]? = some s → env[j]? = some t → s.held = true → t.held = true → σ[i]? = some (some (.ref a)) → σ[j]? = some (some (.ref a)) → False
  len : env.length = σ.length
  ioH : ∀ a, a ∈ φ.io → ∃ ho, H a = some ho
  presT : ∀ b ps, φ.H b = some (.tbl ps) → ∃ qs, H b = some (.tbl qs)
  tab : NdefX.TabsN CodeTabs.T H
  ntb : NoTbl F
  tre : TreAll K φ F H env σ
  ioA : ∀ a, a ∈ φ.io → ∃ o, φ.H a = some o

theorem ObjR.ntbl {K : PySem.W.Frag} {F : Hp} {ho : HO} {d : D} (o : ObjR K F ho d) : ∀ ps, ho ≠ .tbl ps := fun ps e => by subst e; exact o.elim
theorem NoTbl.upd {F : Hp} {a : Addr} {ho : HO} (n : NoTbl F) (h : ∀ ps, ho ≠ .tbl ps) : NoTbl (upd F a ho) := fun b ps e => by
  by_cases q : b = a
  · subst q; rw [upd_same] at e; exact h ps (Option.some.inj e)
  · rw [upd_ne q] at e; exact n b ps e
/-- a new object -/
theorem tabs_new {T : List NdefX.NTab} {H : Hp} {p : Addr} {ho : HO} (t : NdefX.TabsN T H) (hp : H p = none) : NdefX.TabsN T (upd H p ho) :=
  t.ext fun b o e => by rw [upd_ne fun q => by rw [q, hp] at e; cases e]; exact e
/-- an object that is no table and no code is written -/
theorem tabs_write {T : List NdefX.NTab} {H : Hp} {p : Addr} {ho ho' : HO} (t : NdefX.TabsN T H) (hp : H p = some ho) (h1 : ∀ ps, ho ≠ .tbl ps) (h2 : ∀ Q, ho ≠ .ext Q) : NdefX.TabsN T (upd H p ho') := fun x hx => by
  obtain ⟨ps, e, tr, cd⟩ := t x hx
  refine ⟨ps, by rw [upd_ne fun q => by rw [q, hp] at e; exact h1 ps (Option.some.inj e)]; exact e, tr, fun pos cv hc => ?_⟩
  obtain ⟨c, e1, e2⟩ := cd pos cv hc
  exact ⟨c, e1, by rw [upd_ne fun q => by rw [q, hp] at e2; exact h2 _ (Option.some.inj e2)]; exact e2⟩
theorem ObjR.next {K : PySem.W.Frag} {F : Hp} {ho : HO} {d : D} (o : ObjR K F ho d) : ∀ Q, ho ≠ .ext Q := fun Q e => by subst e; exact o.elim

variable [CodeTabs]
/-- what a result is: of an object held alone nobody else knows -/
def RvOk (K : PySem.W.Frag) (φ : Act) (F H : Hp) (env : Env) (σ : St) : RV → V → Prop
  | .fz d, v => R K F d v
  | .own d, v => ∃ a ho, v = .ref a ∧ H a = some ho ∧ ObjR K F ho d ∧ F a = none ∧ φ.H a = none ∧
      (∀ (i : Nat) (s : Slot), env[i]? = some s → s.held = true → σ[i]? ≠ some (some (.ref a))) ∧ NoTre K φ F H env σ a
  | .bor i, v => σ[i]? = some (some v)
  | .tre d, v => ∃ fp, TreV K φ F H d v fp ∧ ∀ a, a ∈ fp → (∀ (i : Nat) (s : Slot), env[i]? = some s → s.held = true → σ[i]? ≠ some (some (.ref a))) ∧ NoTre K φ F H env σ a

section
variable {K : PySem.W.Frag} {φ : Act} {F F' H : Hp} {env : Env} {σ : St}
theorem SlotOk.mono (e : Same F F') (k : ∀ a o, H a = some o → F a = none → φ.H a = none → F' a = none) (k2 : ∀ a, a ∈ φ.io → F' a = none) {s : Slot} {o : Option (Option V)} (h : SlotOk K φ F H s o) : SlotOk K φ F' H s o := by
  cases h with
  | un => exact .un
  | fz h => exact .fz (R.mono e _ _ h)
  | own h1 h2 h3 h4 => exact .own h1 (h2.mono e) (k _ _ h1 h3 h4) h4
  | io h1 h2 h3 h4 => exact .io h1 h2 (h3.mono e) (k2 _ (List.mem_of_getElem? h1))
  | ex h1 h2 h3 => exact .ex h1 h2 (h3.mono e)
  | tre => exact .tre
/-- the object at a, that no slot holds, never changes again -/
theorem Rel.keepF (r : Rel K φ F env σ H) {a : Addr} {ho : HO} (ha : H a = some ho) (hF : F a = none) (hn : φ.H a = none) (hs : ∀ (i : Nat) (s : Slot), env[i]? = some s → s.held = true → σ[i]? ≠ some (some (.ref a))) (hT : NoTre K φ F H env σ a) (hz : ∀ ps, ho ≠ .tbl ps) :
    Rel K φ (upd F a ho) env σ H := by
  refine ⟨PV.Same.upd_l ha r.sub, fun b o e => upd_Same hF _ _ (r.old _ _ e), r.pres, fun b o e => ?_, fun i s e => ?_, r.dist, r.len, r.ioH, r.presT, r.tab, r.ntb.upd hz,
    r.tre.move (upd_Same hF) (fun i d e => ⟨e, rfl⟩) (fun i d v fp b e hv ht hb => ⟨by rw [upd_ne (fun q => by subst q; exact hT i d v fp e hv ht hb)]; exact (ht.mem hb).1, rfl, (ht.mem hb).2.1⟩) fun i d v fp j u a _ _ _ ej hu hj _ => ⟨u, ej, hu, hj⟩, r.ioA⟩
  · by_cases q : b = a
    · subst q; exact .inr hn
    · rw [upd_ne q] at e; exact r.new _ _ e
  · have h := r.slot i s e
    revert h
    generalize hσ : σ[i]? = o
    intro h
    cases h with
    | un => exact .un
    | fz h => exact .fz (R.mono (upd_Same hF) _ _ h)
    | own h1 h2 h3 h4 =>
      refine .own h1 (h2.mono (upd_Same hF)) ?_ h4
      rw [upd_ne fun q => ?_]
      · exact h3
      · subst q; exact hs i _ e rfl hσ
    | ex h1 h2 h3 => exact .ex h1 h2 (h3.mono (upd_Same hF))
    | tre => exact .tre
    | io h1 h2 h3 h4 =>
      refine .io h1 h2 (h3.mono (upd_Same hF)) ?_
      rw [upd_ne fun q => ?_]
      · exact h4
      · subst q; exact hs i _ e rfl hσ
theorem Rel.keepF2 (r : Rel K φ F env σ H) {a : Addr} {ho : HO} (hF : F a = none) (hT : NoTre K φ F H env σ a) {b : Addr} (n : NoTre K φ F H env σ b) : NoTre K φ (upd F a ho) H env σ b :=
  n.move r.tre (upd_Same hF) (fun i d e => ⟨e, rfl⟩) fun i d v fp c e hv ht hc => ⟨by rw [upd_ne (fun q => by subst q; exact hT i d v fp e hv ht hc)]; exact (ht.mem hc).1, rfl, (ht.mem hc).2.1⟩
/-- the items of a tree never change again -/
theorem ItmsOk.keep {F0 : Hp} {ds : List D} {ws : List V} {ls : List Addr} (h : ItmsOk K φ F0 H ds ws ls) : ∀ {F : Hp}, Same F0 F → Rel K φ F env σ H → ls.Nodup → (∀ b, b ∈ ls → F b = none ∧ (∀ (i : Nat) (s : Slot), env[i]? = some s → s.held = true → σ[i]? ≠ some (some (.ref b))) ∧ NoTre K φ F H env σ b) →
    ∃ F', Same F F' ∧ Rel K φ F' env σ H ∧ RL K F' ds ws ∧ ∀ c, F' c ≠ F c → c ∈ ls := by
  induction h with
  | nil => intro F _ r _ _; exact ⟨F, .refl _, r, RL.nil, fun c q => absurd rfl q⟩
  | @cons d w l ls ds ws h t ih =>
    intro F s0 r nd k
    rcases h with ⟨es, b, ws', rfl, rfl, g1, g2, g3, g4, rfl⟩ | ⟨h1, h2, rfl⟩
    · obtain ⟨nb, nl⟩ := List.nodup_cons.mp (show (b :: ls).Nodup from nd)
      obtain ⟨k1, k2, k3⟩ := k b (by simp)
      have r1 := r.keepF (ho := .lst ws') g1 k1 g3 k2 k3 (fun ps q => nomatch q)
      obtain ⟨F', s1, r', hl, hc⟩ := ih (s0.trans (upd_Same k1)) r1 nl fun c hc => by
        obtain ⟨c1, c2, c3⟩ := k c (by simp [hc])
        exact ⟨by rw [upd_ne fun q => nb (by rw [← q]; exact hc)]; exact c1, c2, r.keepF2 k1 k3 c3⟩
      refine ⟨F', (upd_Same k1).trans s1, r', RL.cons ?_ hl, fun c hq => ?_⟩
      · exact R.mono s1 _ _ (R.of_obj (d := .lst es) upd_same (RL.mono (s0.trans (upd_Same k1)) _ _ g4))
      · by_cases e : c = b
        · subst e; simp
        · by_cases q : F' c = upd F b (.lst ws') c
          · rw [upd_ne e] at q; exact absurd q hq
          · simp [hc c q]
    · obtain ⟨F', s1, r', hl, hc⟩ := ih s0 r nd fun c hc => k c (by simpa using hc)
      exact ⟨F', s1, r', RL.cons (R.mono (s0.trans s1) _ _ h2) hl, fun c q => by simpa using hc c q⟩
/-- a tree never changes again -/
theorem Rel.settleT (r : Rel K φ F env σ H) {d : D} {v : V} {fp : List Addr} (h : TreV K φ F H d v fp) (k : ∀ a, a ∈ fp → (∀ (i : Nat) (s : Slot), env[i]? = some s → s.held = true → σ[i]? ≠ some (some (.ref a))) ∧ NoTre K φ F H env σ a) :
    ∃ F', Same F F' ∧ Rel K φ F' env σ H ∧ R K F' d v := by
  obtain ⟨a, ds, vs, ho, ls, rfl, h1, h2, h4, h5, h3, rfl, h6⟩ := h
  obtain ⟨na, nl⟩ := List.nodup_cons.mp h6
  obtain ⟨F', s1, r1, hl, hc⟩ := h3.keep (.refl _) r nl fun b hb => ⟨(h3.mem hb).1, k b (List.mem_cons_of_mem _ hb)⟩
  obtain ⟨k1, k2⟩ := k a List.mem_cons_self
  have hF' : F' a = none := by
    rw [← h4]
    exact Classical.byContradiction fun q => na (hc a q)
  have n' : NoTre K φ F' H env σ a := k2.move r.tre s1 (fun i d e => ⟨e, rfl⟩) fun i d v fp c e hv ht hcm => ⟨by
    have : F' c = F c := Classical.byContradiction fun q => (k c (List.mem_cons_of_mem _ (hc c q))).2 i d v fp e hv ht hcm
    rw [this]; exact (ht.mem hcm).1, rfl, (ht.mem hcm).2.1⟩
  have hz : ∀ ps, ho ≠ .tbl ps := fun ps q => by rcases h2 with ⟨_, rfl⟩ | ⟨_, rfl⟩ <;> cases q
  refine ⟨upd F' a ho, s1.trans (upd_Same hF'), r1.keepF h1 hF' h5 k1 n' hz, ?_⟩
  rcases h2 with ⟨rfl, rfl⟩ | ⟨rfl, rfl⟩
  · unfold R; exact ⟨a, vs, rfl, upd_same, RL.mono (upd_Same hF') _ _ hl⟩
  · unfold R; exact ⟨a, vs, rfl, upd_same, RL.mono (upd_Same hF') _ _ hl⟩
/-- a new temporary is settled -/
theorem Rel.settle (r : Rel K φ F env σ H) {q : RV} {v : V} (h : RvOk K φ F H env σ q v) : ∃ F', Same F F' ∧ Rel K φ F' env σ H ∧ RvOk K φ F' H env σ q.settle v := by
  cases q with
  | fz d => exact ⟨F, .refl _, r, h⟩
  | bor i => exact ⟨F, .refl _, r, h⟩
  | own d =>
    obtain ⟨a, ho, rfl, h1, h2, h3, h4, h5, h6⟩ := h
    refine ⟨upd F a ho, upd_Same h3, r.keepF h1 h3 h4 h5 h6 h2.ntbl, ?_⟩
    exact R.of_obj upd_same (h2.mono (upd_Same h3))
  | tre d =>
    obtain ⟨fp, h1, h2⟩ := h
    exact r.settleT h1 h2
/-- a value seen -/
theorem Rel.peek (r : Rel K φ F env σ H) {q : RV} {v : V} {d : D} (h : RvOk K φ F H env σ q v) (e : q.peek env = some d) : PVal K F H d v := by
  cases q with
  | fz d' => simp only [RV.peek, Option.some.injEq] at e; subst e; exact .inl h
  | own d' =>
    simp only [RV.peek, Option.some.injEq] at e; subst e
    obtain ⟨a, ho, rfl, h1, h2, _⟩ := h
    exact .inr ⟨a, ho, rfl, h1, h2⟩
  | tre d' => cases e
  | bor i =>
    simp only [RV.peek] at e
    cases hs : env[i]? with
    | none => rw [hs] at e; cases e
    | some s =>
      rw [hs] at e
      have q := r.slot i s hs
      have h : σ[i]? = some (some v) := h
      rw [h] at q
      cases q with
      | un => cases e
      | fz q => simp only [Slot.d?, Option.some.injEq] at e; subst e; exact .inl q
      | own h1 h2 h3 h4 => simp only [Slot.d?, Option.some.injEq] at e; subst e; exact .inr ⟨_, _, rfl, h1, h2⟩
      | io h1 h2 h3 h4 => simp only [Slot.d?, Option.some.injEq] at e; subst e; exact .inr ⟨_, _, rfl, h2, h3⟩
      | ex h1 h2 h3 => cases e
      | tre => cases e
theorem getElem?_setE {α : Type} {l : List α} {i j : Nat} {x y : α} (h : (l.set i x)[j]? = some y) : (i = j ∧ y = x) ∨ (i ≠ j ∧ l[j]? = some y) := by
  rw [List.getElem?_set] at h
  by_cases e : i = j
  · rw [if_pos e] at h
    split at h
    · cases h; exact .inl ⟨e, rfl⟩
    · cases h
  · rw [if_neg e] at h; exact .inr ⟨e, h⟩
/-- a slot's object never changes again -/
theorem Rel.fix (r : Rel K φ F env σ H) {i : Nat} {d : D} (e : env[i]? = some (.own d)) : ∃ F' v, Same F F' ∧ Rel K φ F' (env.set i (.fz d)) σ H ∧ σ[i]? = some (some v) ∧ R K F' d v := by
  have q := r.slot i _ e
  generalize hσ : σ[i]? = o at q
  cases q with
  | own h1 h2 h3 h4 =>
    rename_i a ho
    have hR : R K (upd F a ho) d (.ref a) := R.of_obj upd_same (h2.mono (upd_Same h3))
    refine ⟨upd F a ho, .ref a, upd_Same h3, ⟨PV.Same.upd_l h1 r.sub, fun b o e => upd_Same h3 _ _ (r.old _ _ e), r.pres, fun b o e => ?_, fun j s ej => ?_, fun j k s t b hjk ej ek hs ht => ?_, by rw [List.length_set]; exact r.len, r.ioH, r.presT, r.tab, r.ntb.upd h2.ntbl, ?_, r.ioA⟩, rfl, hR⟩
    · by_cases q : b = a
      · subst q; exact .inr h4
      · rw [upd_ne q] at e; exact r.new _ _ e
    · rcases getElem?_setE ej with ⟨rfl, rfl⟩ | ⟨ne, ej⟩
      · rw [hσ]; exact .fz hR
      · have h := r.slot j s ej
        generalize hσj : σ[j]? = oj at h
        have far : ∀ b, s.held = true → oj = some (some (.ref b)) → b ≠ a := fun b hs hb q => by
          subst q; exact r.dist i j _ s _ ne e ej rfl hs hσ (hσj.trans hb)
        cases h with
        | un => exact .un
        | fz h => exact .fz (R.mono (upd_Same h3) _ _ h)
        | own g1 g2 g3 g4 => exact .own g1 (g2.mono (upd_Same h3)) (by rw [upd_ne (far _ rfl rfl)]; exact g3) g4
        | io g1 g2 g3 g4 => exact .io g1 g2 (g3.mono (upd_Same h3)) (by rw [upd_ne (far _ rfl rfl)]; exact g4)
        | ex g1 g2 g3 => exact .ex g1 g2 (g3.mono (upd_Same h3))
        | tre => exact .tre
    · rcases getElem?_setE ej with ⟨rfl, rfl⟩ | ⟨_, ej⟩
      · cases hs
      · rcases getElem?_setE ek with ⟨rfl, rfl⟩ | ⟨_, ek⟩
        · cases ht
        · exact r.dist j k s t b hjk ej ek hs ht
    · refine r.tre.move (upd_Same h3) (fun j d ej => ?_) (fun j d v fp b ej hv ht hb => ⟨?_, rfl, (ht.mem hb).2.1⟩) fun j d v fp k u b _ _ _ ek hu hk _ => ?_
      · rcases getElem?_setE ej with ⟨rfl, q⟩ | ⟨_, ej⟩
        · cases q
        · exact ⟨ej, rfl⟩
      · rw [upd_ne fun q => ?_]
        · exact (ht.mem hb).1
        · subst q
          obtain ⟨v2, fp2, g1, g2, g3, _⟩ := r.tre j d ej
          rw [hv] at g1; cases g1
          rw [ht.unique g2] at hb
          exact g3 i _ _ e rfl hσ hb
      · rcases getElem?_setE ek with ⟨rfl, rfl⟩ | ⟨_, ek⟩
        · cases hu
        · exact ⟨u, ek, hu, hk⟩
/-- a value is given away -/
theorem Rel.freeze (r : Rel K φ F env σ H) {q : RV} {v : V} {d : D} {env' : Env} (h : RvOk K φ F H env σ q v) (e : q.freeze env = some (d, env')) : ∃ F', Same F F' ∧ Rel K φ F' env' σ H ∧ R K F' d v := by
  cases q with
  | fz d' => simp only [RV.freeze, Option.some.injEq, Prod.mk.injEq] at e; obtain ⟨rfl, rfl⟩ := e; exact ⟨F, .refl _, r, h⟩
  | own d' =>
    simp only [RV.freeze, Option.some.injEq, Prod.mk.injEq] at e; obtain ⟨rfl, rfl⟩ := e
    exact r.settle h
  | tre d' =>
    simp only [RV.freeze, Option.some.injEq, Prod.mk.injEq] at e; obtain ⟨rfl, rfl⟩ := e
    exact r.settle h
  | bor i =>
    have h : σ[i]? = some (some v) := h
    simp only [RV.freeze] at e
    split at e
    · rename_i d' hs
      simp only [Option.some.injEq, Prod.mk.injEq] at e; obtain ⟨rfl, rfl⟩ := e
      obtain ⟨F', v', s1, r1, e1, h1⟩ := r.fix hs
      rw [h] at e1; cases e1
      exact ⟨F', s1, r1, h1⟩
    · rename_i d' hs
      simp only [Option.some.injEq, Prod.mk.injEq] at e; obtain ⟨rfl, rfl⟩ := e
      have q := r.slot i _ hs
      rw [h] at q
      cases q with
      | fz q => exact ⟨F, .refl _, r, q⟩
    · cases e
end
end PV
end

section
set_option maxRecDepth 100000
namespace PV
open PySem PySem.Spec PyProof.Rows L2
variable [CodeTabs]

/-! ### the readings -/
def rE (K : PySem.W.Frag) (φ : Act) (f : E) : TE := fun σ H Q => ∃ F env r env', Rel K φ F env σ H ∧ f env = some (r, env') ∧
  ∀ F' H' v, Same F F' → Rel K φ F' env' σ H' → RvOk K φ F' H' env' σ r v → Q v H'
def rT (K : PySem.W.Frag) (φ : Act) (f : T) : TT := fun σ H Q => ∃ F env b env', Rel K φ F env σ H ∧ f env = some (b, env') ∧
  ∀ F' H', Same F F' → Rel K φ F' env' σ H' → Q b H'
/-- settled values -/
inductive RvsOk (K : PySem.W.Frag) (F : Hp) (σ : St) : List RV → List V → Prop
  | nil : RvsOk K F σ [] []
  | fz {d : D} {v : V} {rs : List RV} {vs : List V} : R K F d v → RvsOk K F σ rs vs → RvsOk K F σ (.fz d :: rs) (v :: vs)
  | bor {i : Nat} {v : V} {rs : List RV} {vs : List V} : σ[i]? = some (some v) → RvsOk K F σ rs vs → RvsOk K F σ (.bor i :: rs) (v :: vs)
def rA (K : PySem.W.Frag) (φ : Act) (f : EL) : TA := fun σ H Q => ∃ F env rs env', Rel K φ F env σ H ∧ f env = some (rs, env') ∧
  ∀ F' H' vs, Same F F' → Rel K φ F' env' σ H' → RvsOk K F' σ rs vs → Q vs H'

structure EX (X : Cx) (Γ : Hp → Option Ea → Prop) (e : Expr) (f : E) : Prop where
  at' : ∀ φ : Act, Γ φ.F φ.ea → PE X e (rE X.K φ f)
structure TX (X : Cx) (Γ : Hp → Option Ea → Prop) (e : Expr) (f : T) : Prop where
  at' : ∀ φ : Act, Γ φ.F φ.ea → PT X e (rT X.K φ f)
structure AX (X : Cx) (Γ : Hp → Option Ea → Prop) (es : List Expr) (f : EL) : Prop where
  at' : ∀ φ : Act, Γ φ.F φ.ea → PA X es (rA X.K φ f)

section
variable {X : Cx} {Γ : Hp → Option Ea → Prop} {e : Expr}
theorem PE.weak {t t' : TE} (h : PE X e t) (w : ∀ σ H Q, t' σ H Q → t σ H Q) : PE X e t' := ⟨fun pins s σ H Q I q => h.run pins s σ H Q I (w _ _ _ q)⟩
theorem PT.weak {t t' : TT} (h : PT X e t) (w : ∀ σ H Q, t' σ H Q → t σ H Q) : PT X e t' := ⟨fun pins s σ H Q I q => h.run pins s σ H Q I (w _ _ _ q)⟩
theorem PA.weak {es : List Expr} {t t' : TA} (h : PA X es t) (w : ∀ σ H Q, t' σ H Q → t σ H Q) : PA X es t' := ⟨fun pos pins s σ H Q I q => h.run pos pins s σ H Q I (w _ _ _ q)⟩
theorem PS.weak {st : Stmt} {t t' : TS} (h : PS X st t) (w : ∀ D σ H, t' D σ H → t D σ H) : PS X st t' := ⟨fun pins s σ H D I q => h.run pins s σ H D I (w _ _ _ q)⟩
theorem PSs.weak {st : List Stmt} {t t' : TS} (h : PSs X st t) (w : ∀ D σ H, t' D σ H → t D σ H) : PSs X st t' := ⟨fun pins s σ H D I q => h.run pins s σ H D I (w _ _ _ q)⟩
end

section
variable {K : PySem.W.Frag} {φ : Act} {F F' H : Hp} {env : Env} {σ : St}
theorem RvsOk.mono (s : Same F F') {rs : List RV} {vs : List V} (h : RvsOk K F σ rs vs) : RvsOk K F' σ rs vs := by
  induction h with
  | nil => exact .nil
  | fz h _ ih => exact .fz (R.mono s _ _ h) ih
  | bor h _ ih => exact .bor h ih
theorem settled {q : RV} {v : V} (h : RvOk K φ F H env σ q.settle v) {rs : List RV} {vs : List V} (t : RvsOk K F σ rs vs) : RvsOk K F σ (q.settle :: rs) (v :: vs) := by
  cases q with
  | fz d => exact .fz h t
  | own d => exact .fz h t
  | bor i => exact .bor h t
  | tre d => exact .fz h t
inductive PVals (K : PySem.W.Frag) (F H : Hp) : List D → List V → Prop
  | nil : PVals K F H [] []
  | cons {d : D} {v : V} {ds : List D} {vs : List V} : PVal K F H d v → PVals K F H ds vs → PVals K F H (d :: ds) (v :: vs)
theorem Rel.peekAll (r : Rel K φ F env σ H) {rs : List RV} {vs : List V} (h : RvsOk K F σ rs vs) : ∀ {ds : List D}, PV.peekAll env rs = some ds → PVals K F H ds vs := by
  induction h with
  | nil => intro ds e; simp only [PV.peekAll, Option.some.injEq] at e; subst e; exact .nil
  | @fz d v rs vs h _ ih =>
    intro ds e
    simp only [PV.peekAll, RV.peek] at e
    split at e
    · cases e
    · rename_i ds' e'
      cases e
      exact .cons (.inl h) (ih e')
  | @bor i v rs vs h _ ih =>
    intro ds e
    rw [PV.peekAll] at e
    split at e
    · cases e
    · rename_i d e0
      split at e
      · cases e
      · rename_i ds' e'
        cases e
        exact .cons (r.peek (q := .bor i) h e0) (ih e')
theorem Rel.freezeAll : ∀ {rs : List RV} {vs : List V} {F : Hp} {env : Env}, Rel K φ F env σ H → RvsOk K F σ rs vs → ∀ {ds : List D} {env' : Env}, PV.freezeAll rs env = some (ds, env') → ∃ F', Same F F' ∧ Rel K φ F' env' σ H ∧ RL K F' ds vs
  | [], _, F, env, r, h, ds, env', e => by
    cases h
    simp only [PV.freezeAll, Option.some.injEq, Prod.mk.injEq] at e
    obtain ⟨rfl, rfl⟩ := e
    exact ⟨F, .refl _, r, RL.nil⟩
  | q :: rs, _, F, env, r, h, ds, env', e => by
    rw [PV.freezeAll] at e
    split at e
    · cases e
    · rename_i d env1 e1
      split at e
      · cases e
      · rename_i ds2 env2 e2
        cases e
        cases h with
        | fz h1 h2 =>
          obtain ⟨F1, s1, r1, g1⟩ := r.freeze (q := .fz _) h1 e1
          obtain ⟨F2, s2, r2, g2⟩ := Rel.freezeAll r1 (h2.mono s1) e2
          exact ⟨F2, s1.trans s2, r2, RL.cons (R.mono s2 _ _ g1) g2⟩
        | bor h1 h2 =>
          obtain ⟨F1, s1, r1, g1⟩ := r.freeze (q := .bor _) h1 e1
          obtain ⟨F2, s2, r2, g2⟩ := Rel.freezeAll r1 (h2.mono s1) e2
          exact ⟨F2, s1.trans s2, r2, RL.cons (R.mono s2 _ _ g1) g2⟩
/-- a new object -/
theorem Rel.laid (r : Rel K φ F env σ H) {p : Addr} {ho : HO} (hp : H p = none) : Rel K φ F env σ (upd H p ho) := by
  have hF : F p = none := Same.free r.sub hp
  refine ⟨Same.upd_r hF r.sub, r.old, fun b o e1 e2 e3 => ?_, r.new, fun i s e => ?_, r.dist, r.len, fun a h => ?_, fun b ps e => ?_, tabs_new r.tab hp, r.ntb, r.tre.move (.refl _) (fun i d e => ⟨e, rfl⟩) (fun i d v fp b _ _ ht hb => ?_) fun i d v fp j u a _ _ _ ej hu hj _ => ⟨u, ej, hu, hj⟩, r.ioA⟩
  · have q := r.pres b o e1 e2 e3
    rw [upd_ne (ne_of_none q hp)]; exact q
  · have h := r.slot i s e
    generalize hσ : σ[i]? = o at h
    cases h with
    | un => exact .un
    | fz h => exact .fz h
    | own h1 h2 h3 h4 => exact .own (by rw [upd_ne (ne_of_none h1 hp)]; exact h1) h2 h3 h4
    | io h1 h2 h3 h4 => exact .io h1 (by rw [upd_ne (ne_of_none h2 hp)]; exact h2) h3 h4
    | ex h1 h2 h3 => exact .ex h1 h2 h3
    | tre => exact .tre
  · obtain ⟨o, q⟩ := r.ioH a h
    exact ⟨o, by rw [upd_ne (ne_of_none q hp)]; exact q⟩
  · obtain ⟨qs, q⟩ := r.presT b ps e
    exact ⟨qs, by rw [upd_ne (ne_of_none q hp)]; exact q⟩
  · obtain ⟨q1, q2, o, q3, _⟩ := ht.mem hb
    exact ⟨q1, by rw [upd_ne (ne_of_none q3 hp)], q2⟩
theorem Rel.actNone (r : Rel K φ F env σ H) {p : Addr} (hp : H p = none) : φ.H p = none := by
  cases q : φ.H p with
  | none => rfl
  | some o =>
    by_cases hio : p ∈ φ.io
    · obtain ⟨o', q'⟩ := r.ioH p hio
      rw [hp] at q'; cases q'
    · by_cases ht : ∃ ps, o = .tbl ps
      · obtain ⟨ps, rfl⟩ := ht
        obtain ⟨qs, this⟩ := r.presT p ps q
        rw [hp] at this; cases this
      · have := r.pres p o q hio fun ps e => ht ⟨ps, e⟩
        rw [hp] at this; cases this
theorem Rel.far (r : Rel K φ F env σ H) {p : Addr} (hp : H p = none) : ∀ (i : Nat) (s : Slot), env[i]? = some s → s.held = true → σ[i]? ≠ some (some (.ref p)) := fun i s e hs q => by
  have h := r.slot i s e
  rw [q] at h
  cases h with
  | un => cases hs
  | fz h => cases hs
  | own h1 _ _ _ => rw [hp] at h1; cases h1
  | io _ h1 _ _ => rw [hp] at h1; cases h1
  | ex h1 h2 h3 => cases hs
  | tre => cases hs
theorem Rel.farT {p : Addr} (hp : H p = none) : NoTre K φ F H env σ p := fun i d v fp _ _ ht hm => by
  obtain ⟨_, _, o, q, _⟩ := ht.mem hm
  rw [hp] at q; cases q
/-- what belongs to no tree, behind a new object -/
theorem Rel.laidT (r : Rel K φ F env σ H) {p a : Addr} {ho : HO} (hp : H p = none) (n : NoTre K φ F H env σ a) : NoTre K φ F (upd H p ho) env σ a :=
  n.move r.tre (.refl _) (fun i d e => ⟨e, rfl⟩) fun i d v fp b _ _ ht hb => by
    obtain ⟨q1, q2, o, q3, _⟩ := ht.mem hb
    exact ⟨q1, by rw [upd_ne (ne_of_none q3 hp)], q2⟩
/-- a new object that is held alone -/
theorem Rel.fresh (r : Rel K φ F env σ H) {p : Addr} {ho : HO} {d : D} (hp : H p = none) (o : ObjR K F ho d) : Rel K φ F env σ (upd H p ho) ∧ RvOk K φ F (upd H p ho) env σ (.own d) (.ref p) :=
  ⟨r.laid hp, p, ho, rfl, upd_same, o, Same.free r.sub hp, r.actNone hp, r.far hp, r.laidT hp (Rel.farT hp)⟩
/-- a new object that never changes -/
theorem Rel.fresh' (r : Rel K φ F env σ H) {p : Addr} {ho : HO} (hp : H p = none) (hz : ∀ ps, ho ≠ .tbl ps := by intro ps q; cases q) : Same F (upd F p ho) ∧ Rel K φ (upd F p ho) env σ (upd H p ho) :=
  have hF : F p = none := Same.free r.sub hp
  ⟨upd_Same hF, (r.laid hp).keepF upd_same hF (r.actNone hp) (r.far hp) (r.laidT hp (Rel.farT hp)) hz⟩
end

/-! ### results of operations -/
/-- what must hold for every form in which the result res may come -/
def ResQ (K : PySem.W.Frag) (F H : Hp) (res : RV) (Q : VK) : Prop :=
  match res with
  | .fz d => (∀ v, R K F d v → Q v H) ∧ ∀ ds p vs, d = .tup ds → H p = none → RL K F ds vs → Q (.ref p) (upd H p (.tup vs))
  | .own d => ∀ p ho, H p = none → ObjR K F ho d → Q (.ref p) (upd H p ho)
  | .bor _ => False
  | .tre _ => True
theorem resQ {K : PySem.W.Frag} {φ : Act} {F H : Hp} {env : Env} {σ : St} {res : RV} {Q : VK} (r : Rel K φ F env σ H) (hb : ∀ i, res ≠ .bor i)
    (q : ∀ F' H' v, Same F F' → Rel K φ F' env σ H' → RvOk K φ F' H' env σ res v → Q v H') : ResQ K F H res Q := by
  cases res with
  | fz d =>
    refine ⟨fun v h => q F H v (.refl _) r h, fun ds p vs e hp h => ?_⟩
    subst e
    obtain ⟨s, r'⟩ := r.fresh' (ho := .tup vs) hp
    refine q _ _ _ s r' ?_
    show R K _ _ _
    unfold R
    exact ⟨p, vs, rfl, upd_same, RL.mono s _ _ h⟩
  | own d => exact fun p ho hp o => let ⟨r', g⟩ := r.fresh hp o; q _ _ _ (.refl _) r' g
  | bor i => exact absurd rfl (hb i)
  | tre d => exact trivial

def OpD (K : PySem.W.Frag) (r : R2) (fo : D → D → Option RV) : Prop :=
  ∀ (F H : Hp) (x y : V) (c d : D) (res : RV) (Q : VK), Same F H → PVal K F H c x → PVal K F H d y → fo c d = some res → (∀ i, res ≠ .bor i) ∧ (ResQ K F H res Q → r x y H Q)
def UnD (K : PySem.W.Frag) (r : V → Hp → VK → Prop) (fo : D → Option RV) : Prop :=
  ∀ (F H : Hp) (x : V) (c : D) (res : RV) (Q : VK), Same F H → PVal K F H c x → fo c = some res → (∀ i, res ≠ .bor i) ∧ (ResQ K F H res Q → r x H Q)
def CallD (K : PySem.W.Frag) (r : List V → Hp → VK → Prop) (fo : List D → Option RV) : Prop :=
  ∀ (F H : Hp) (xs : List V) (cs : List D) (res : RV) (Q : VK), Same F H → PVals K F H cs xs → fo cs = some res → (∀ i, res ≠ .bor i) ∧ (ResQ K F H res Q → r xs H Q)
section
variable {K : PySem.W.Frag} {φ : Act} {f g : E} {σ : St} {H : Hp} {Q : VK}
theorem rE_bin {r : R2} {fo : D → D → Option RV} (hf : OpD K r fo) (h : rE K φ (eBin fo f g) σ H Q) : tOp r (rE K φ f) (rE K φ g) σ H Q := by
  obtain ⟨F, env, q, env', r0, e, k⟩ := h
  unfold eBin at e
  split at e
  · cases e
  · rename_i ra env1 ea
    refine ⟨F, env, ra, env1, r0, ea, fun F1 H1 x s1 r1 h1 => ?_⟩
    obtain ⟨F1', s1', r1', h1'⟩ := r1.settle h1
    split at e
    · cases e
    · rename_i rb env2 eb
      refine ⟨F1', env1, rb, env2, r1', eb, fun F2 H2 y s2 r2 h2 => ?_⟩
      split at e
      · rename_i c d ec ed
        have hx : PVal K F2 H2 c x := by
          cases ra with
          | fz dd => exact r2.peek (q := .fz dd) (R.mono s2 _ _ h1') ec
          | own dd => exact r2.peek (q := .fz dd) (R.mono s2 _ _ h1') ec
          | tre dd => cases ec
          | bor i => exact r2.peek (q := .bor i) h1' ec
        have hy := r2.peek h2 ed
        split at e
        · cases e
        · rename_i res er
          cases e
          obtain ⟨nb, go⟩ := hf F2 H2 x y c d _ Q r2.sub hx hy er
          exact go (resQ r2 nb fun F3 H3 v s3 r3 h3 => k F3 H3 v (s1.trans (s1'.trans (s2.trans s3))) r3 h3)
      · cases e
theorem rE_un {r : V → Hp → VK → Prop} {fo : D → Option RV} (hf : UnD K r fo) (h : rE K φ (eUn fo f) σ H Q) : tUn r (rE K φ f) σ H Q := by
  obtain ⟨F, env, q, env', r0, e, k⟩ := h
  unfold eUn at e
  split at e
  · cases e
  · rename_i ra env1 ea
    refine ⟨F, env, ra, env1, r0, ea, fun F1 H1 x s1 r1 h1 => ?_⟩
    split at e
    · cases e
    · rename_i c ec
      split at e
      · cases e
      · rename_i res er
        cases e
        obtain ⟨nb, go⟩ := hf F1 H1 x c _ Q r1.sub (r1.peek h1 ec) er
        exact go (resQ r1 nb fun F3 H3 v s3 r3 h3 => k F3 H3 v (s1.trans s3) r3 h3)
theorem rE_B {r : List V → Hp → VK → Prop} {fo : List D → Option RV} {es : EL} (hf : CallD K r fo) (h : rE K φ (eB fo es) σ H Q) : tCB r (rA K φ es) σ H Q := by
  obtain ⟨F, env, q, env', r0, e, k⟩ := h
  unfold eB at e
  split at e
  · cases e
  · rename_i rs env1 ea
    refine ⟨F, env, rs, env1, r0, ea, fun F1 H1 xs s1 r1 h1 => ?_⟩
    split at e
    · cases e
    · rename_i cs ec
      split at e
      · cases e
      · rename_i res er
        cases e
        obtain ⟨nb, go⟩ := hf F1 H1 xs cs _ Q r1.sub (r1.peekAll h1 ec) er
        exact go (resQ r1 nb fun F3 H3 v s3 r3 h3 => k F3 H3 v (s1.trans s3) r3 h3)
theorem rE_var {i : Nat} (h : rE K φ (eVar i) σ H Q) : tVar i σ H Q := by
  obtain ⟨F, env, q, env', r0, e, k⟩ := h
  unfold eVar at e
  split at e
  · rename_i d hs
    cases e
    have g := r0.slot i _ hs
    generalize hσ : σ[i]? = o at g
    cases g with
    | fz g => exact ⟨_, hσ, k F H _ (.refl _) r0 g⟩
  · rename_i d hs
    cases e
    have g := r0.slot i _ hs
    generalize hσ : σ[i]? = o at g
    cases g with
    | own _ _ _ _ => exact ⟨_, hσ, k F H _ (.refl _) r0 hσ⟩
  · rename_i kk d hs
    cases e
    have g := r0.slot i _ hs
    generalize hσ : σ[i]? = o at g
    cases g with
    | io _ _ _ _ => exact ⟨_, hσ, k F H _ (.refl _) r0 hσ⟩
  · cases e
theorem rE_C {d : D} {v : V} (hd : ∀ F, R K F d v) (h : rE K φ (eC d) σ H Q) : tC v σ H Q := by
  obtain ⟨F, env, q, env', r0, e, k⟩ := h
  unfold eC at e
  cases e
  exact k F H v (.refl _) r0 (hd F)
theorem rA_cons {es : EL} {Q : List V → Hp → Prop} (h : rA K φ (eCons f es) σ H Q) : tCons (rE K φ f) (rA K φ es) σ H Q := by
  obtain ⟨F, env, q, env', r0, e, k⟩ := h
  unfold eCons at e
  split at e
  · cases e
  · rename_i ra env1 ea
    refine ⟨F, env, ra, env1, r0, ea, fun F1 H1 x s1 r1 h1 => ?_⟩
    obtain ⟨F1', s1', r1', h1'⟩ := r1.settle h1
    split at e
    · cases e
    · rename_i rs env2 eb
      cases e
      refine ⟨F1', env1, rs, env', r1', eb, fun F2 H2 ys s2 r2 h2 => ?_⟩
      refine k F2 H2 _ (s1.trans (s1'.trans s2)) r2 (settled (φ := φ) (H := H2) (env := env') ?_ h2)
      cases ra with
      | fz dd => exact R.mono s2 _ _ h1'
      | own dd => exact R.mono s2 _ _ h1'
      | tre dd => exact R.mono s2 _ _ h1'
      | bor i => exact h1'
theorem rA_nil {Q : List V → Hp → Prop} (h : rA K φ eNil σ H Q) : L2.tNil σ H Q := by
  obtain ⟨F, env, q, env', r0, e, k⟩ := h
  unfold eNil at e
  cases e
  exact k F H [] (.refl _) r0 .nil
theorem rE_lst {es : EL} (h : rE K φ (eLst es) σ H Q) : tLst (rA K φ es) σ H Q := by
  obtain ⟨F, env, q, env', r0, e, k⟩ := h
  unfold eLst at e
  split at e
  · cases e
  · rename_i rs env1 ea
    refine ⟨F, env, rs, env1, r0, ea, fun F1 H1 xs s1 r1 h1 => ?_⟩
    split at e
    · cases e
    · rename_i ds env2 e2
      split at e
      · rename_i hl
        cases e
        obtain ⟨F2, s2, r2, g2⟩ := r1.freezeAll h1 e2
        refine ⟨by rw [← RL.length _ _ g2]; exact hl, fun p hp => ?_⟩
        obtain ⟨r', g⟩ := r2.fresh (d := .lst ds) (ho := .lst xs) hp g2
        exact k F2 _ _ (s1.trans s2) r' g
      · cases e
theorem rE_tup {es : EL} (h : rE K φ (eTup es) σ H Q) : tTup (rA K φ es) σ H Q := by
  obtain ⟨F, env, q, env', r0, e, k⟩ := h
  unfold eTup at e
  split at e
  · cases e
  · rename_i rs env1 ea
    refine ⟨F, env, rs, env1, r0, ea, fun F1 H1 xs s1 r1 h1 => ?_⟩
    split at e
    · cases e
    · rename_i ds env2 e2
      split at e
      · rename_i hl
        cases e
        obtain ⟨F2, s2, r2, g2⟩ := r1.freezeAll h1 e2
        refine ⟨by rw [← RL.length _ _ g2]; exact hl, fun p hp => ?_⟩
        obtain ⟨s3, r3⟩ := r2.fresh' (ho := .tup xs) hp
        refine k _ _ _ (s1.trans (s2.trans s3)) r3 ?_
        show R K _ _ _
        unfold R
        exact ⟨p, xs, rfl, upd_same, RL.mono s3 _ _ g2⟩
      · cases e
end

/-! ### expressions -/
section
variable {X : Cx} {Γ : Hp → Option Ea → Prop} {a b : Expr} {f g : E} {pos : Pos}
theorem EX.pe (h : EX X Γ a f) (φ : Act) (hφ : Γ φ.F φ.ea) : PE X a (rE X.K φ f) := h.at' φ hφ
theorem ex_bin {op : Operator} {r : R2} {fo : D → D → Option RV} (ho : OpR X (binaryOp op) r) (hf : OpD X.K r fo) (ha : EX X Γ a f) (hb : EX X Γ b g) : EX X Γ (.BinOp a op b pos) (eBin fo f g) :=
  ⟨fun φ hφ => PE.weak (pe_op ho (ha.at' φ hφ) (hb.at' φ hφ)) fun _ _ _ h => rE_bin hf h⟩
theorem ex_cmp {op : CmpOp} {r : R2} {fo : D → D → Option RV} (ho : OpR X (compareOp op) r) (hf : OpD X.K r fo) (ha : EX X Γ a f) (hb : EX X Γ b g) (hm : behindInMarks op b = false) : EX X Γ (.Compare a [op] [b] pos) (eBin fo f g) :=
  ⟨fun φ hφ => PE.weak (pe_cmpR ho (ha.at' φ hφ) (hb.at' φ hφ) hm) fun _ _ _ h => rE_bin hf h⟩
theorem ex_un {op : UnaryOp} {r : V → Hp → VK → Prop} {fo : D → Option RV} (ho : UnR X (unaryOp op) r) (hf : UnD X.K r fo) (ha : EX X Γ a f) : EX X Γ (.UnaryOp op a pos) (eUn fo f) :=
  ⟨fun φ hφ => PE.weak (pe_un ho (ha.at' φ hφ)) fun _ _ _ h => rE_un hf h⟩
theorem ex_ix {r : R2} {fo : D → D → Option RV} (ho : IxR X r) (hf : OpD X.K r fo) (ha : EX X Γ a f) (hb : EX X Γ b g) (hs : PlainIx b) : EX X Γ (.Subscript a b pos) (eBin fo f g) :=
  ⟨fun φ hφ => PE.weak (pe_ix ho (ha.at' φ hφ) (hb.at' φ hφ) hs) fun _ _ _ h => rE_bin hf h⟩
theorem ex_var (i : Nat) {x : Str} (hN : X.N[i]? = some x := by rfl) (hv : Vis X.env.scope x := by first | exact Or.inl rfl | exact Or.inr (Or.inl rfl) | exact Or.inr (Or.inr rfl)) (hd : (x == ("__debug__" : Str)) = false := by decide)
    (hcd : (x == ("__classdict__" : Str)) = false := by decide) : EX X Γ (.Name x pos) (eVar i) :=
  ⟨fun φ hφ => PE.weak (pe_var hN hv hd hcd) fun _ _ _ h => rE_var h⟩
theorem ex_int {i j} : EX X Γ (.Constant (.int i) j pos) (eC (.int i)) := ⟨fun φ hφ => PE.weak pe_int fun _ _ _ h => rE_C (fun _ => by unfold R; rfl) h⟩
theorem ex_bl {i j} : EX X Γ (.Constant (.bool i) j pos) (eC (.bl i)) := ⟨fun φ hφ => PE.weak pe_bl fun _ _ _ h => rE_C (fun _ => by unfold R; rfl) h⟩
theorem ex_non {j} : EX X Γ (.Constant .none j pos) (eC .non) := ⟨fun φ hφ => PE.weak pe_non fun _ _ _ h => rE_C (fun _ => by unfold R; rfl) h⟩
theorem ex_str {x : Str} (l : List Nat) {j} (hx : x = ⟨l.toArray⟩) (ho : okS l = true) : EX X Γ (.Constant (.str x) j pos) (eC (.str l)) := ⟨fun φ hφ => PE.weak pe_str fun _ _ _ h => rE_C (fun _ => by unfold R; exact ⟨by rw [hx], ho⟩) h⟩
theorem ax_nil : AX X Γ [] eNil := ⟨fun φ hφ => PA.weak pa_nil fun _ _ _ h => rA_nil h⟩
theorem ax_cons {es : List Expr} {g : EL} (ha : EX X Γ a f) (hr : AX X Γ es g) (hs : starEach (a :: es) X.env = (false, eval a X.env) :: starEach es X.env := by rfl) : AX X Γ (a :: es) (eCons f g) :=
  ⟨fun φ hφ => PA.weak (pa_cons (ha.at' φ hφ) (hr.at' φ hφ) hs) fun _ _ _ h => rA_cons h⟩
theorem ex_lst {es : List Expr} {g : EL} (h : AX X Γ es g) : EX X Γ (.List es pos) (eLst g) := ⟨fun φ hφ => PE.weak (pe_lst (h.at' φ hφ)) fun _ _ _ h => rE_lst h⟩
theorem ex_tup {es : List Expr} {g : EL} {x1} (h : AX X Γ es g) : EX X Γ (.Tuple es x1 pos) (eTup g) := ⟨fun φ hφ => PE.weak (pe_tup (h.at' φ hφ)) fun _ _ _ h => rE_tup h⟩
theorem ex_B {id : String} {x : Str} {p : Pos} {es : List Expr} {g : EL} {r : List V → Hp → VK → Prop} {fo : List D → Option RV} (hc : CallR X (.builtin id) r) (hf : CallD X.K r fo) (hg : Gl X x) (hm : X.mg x = none) (hv : bootBuiltins x = some (.builtin id)) (ha : AX X Γ (a :: es) g) (hn : x ≠ "__name__" := by decide) (hdb : (x == ("__debug__" : Str)) = false := by decide)
    (he : starEach (a :: es) X.env = (false, eval a X.env) :: starEach es X.env := by rfl) (hpl : (backTo pos (starEach es X.env)).any (·.1) = false := by rfl) : EX X Γ (.Call (.Name x p) (a :: es) [] pos) (eB fo g) :=
  ⟨fun φ hφ => PE.weak (pe_callB hc hg hm hv (ha.at' φ hφ) hn hdb he hpl) fun _ _ _ h => rE_B hf h⟩
theorem ex_Ty {T : String} {x : Str} {p : Pos} {es : List Expr} {g : EL} {r : List V → Hp → VK → Prop} {fo : List D → Option RV} (hc : CallR X (.type T) r) (hf : CallD X.K r fo) (hg : Gl X x) (hm : X.mg x = none) (hv : bootBuiltins x = some (.type T)) (ha : AX X Γ (a :: es) g) (hn : x ≠ "__name__" := by decide) (hdb : (x == ("__debug__" : Str)) = false := by decide)
    (he : starEach (a :: es) X.env = (false, eval a X.env) :: starEach es X.env := by rfl) (hpl : (backTo pos (starEach es X.env)).any (·.1) = false := by rfl) : EX X Γ (.Call (.Name x p) (a :: es) [] pos) (eB fo g) :=
  ⟨fun φ hφ => PE.weak (pe_callTy hc hg hm hv (ha.at' φ hφ) hn hdb he hpl) fun _ _ _ h => rE_B hf h⟩
end
end PV
end

section
set_option maxRecDepth 100000
namespace PV
open PySem PySem.Spec PyProof.Rows L2
variable [CodeTabs]

/-! ### truth, tests -/
theorem PVal.scal {K : PySem.W.Frag} {F H : Hp} {d : D} {v : V} (h : PVal K F H d v) (hl : ∀ xs, d ≠ .lst xs) (hd : ∀ ks vs, d ≠ .dic ks vs) : R K F d v := by
  rcases h with h | ⟨a, ho, _, _, o⟩
  · exact h
  · unfold ObjR at o
    split at o
    · exact absurd rfl (hl _)
    · exact absurd rfl (hd _ _)
    · exact absurd rfl (hd _ _)
    · exact o.elim
theorem PVal.lst {K : PySem.W.Frag} {F H : Hp} {ds : List D} {v : V} (s : Same F H) (h : PVal K F H (.lst ds) v) : ∃ a vs, v = .ref a ∧ H a = some (.lst vs) ∧ RL K F ds vs := by
  rcases h with h | ⟨a, ho, e, h, o⟩
  · unfold R at h
    obtain ⟨a, vs, h1, h2, h3⟩ := h
    exact ⟨a, vs, h1, s _ _ h2, h3⟩
  · cases ho with
    | lst vs => exact ⟨a, vs, e, h, o⟩
    | _ => exact o.elim
theorem PVal.tup {K : PySem.W.Frag} {F H : Hp} {ds : List D} {v : V} (s : Same F H) (h : PVal K F H (.tup ds) v) : ∃ a vs, v = .ref a ∧ SqT K H a vs ∧ RL K F ds vs := by
  have h := h.scal (by intro _ q; cases q) (by intro _ _ q; cases q)
  unfold R at h
  obtain ⟨a, vs, h1, h2, h3⟩ := h
  exact ⟨a, vs, h1, SqT.of (s _ _ h2), h3⟩
theorem PVal.tupH {K : PySem.W.Frag} {F H : Hp} {ds : List D} {v : V} (s : Same F H) (h : PVal K F H (.tup ds) v) : ∃ a vs, v = .ref a ∧ H a = some (.tup vs) ∧ RL K F ds vs := by
  have h := h.scal (by intro _ q; cases q) (by intro _ _ q; cases q)
  unfold R at h
  obtain ⟨a, vs, h1, h2, h3⟩ := h
  exact ⟨a, vs, h1, s _ _ h2, h3⟩
theorem PVal.int {K : PySem.W.Frag} {F H : Hp} {i : Int} {v : V} (h : PVal K F H (.int i) v) : v = .int i := by
  have h := h.scal (by intro _ q; cases q) (by intro _ _ q; cases q)
  unfold R at h; exact h
theorem PVal.bl {K : PySem.W.Frag} {F H : Hp} {i : Bool} {v : V} (h : PVal K F H (.bl i) v) : v = .bl i := by
  have h := h.scal (by intro _ q; cases q) (by intro _ _ q; cases q)
  unfold R at h; exact h
theorem PVal.non {K : PySem.W.Frag} {F H : Hp} {v : V} (h : PVal K F H .non v) : v = .non := by
  have h := h.scal (by intro _ q; cases q) (by intro _ _ q; cases q)
  unfold R at h; exact h
theorem okS_len {s : List Nat} (h : okS s = true) : s.length ≤ 16777216 := by
  unfold okS at h; simp only [Bool.and_eq_true, decide_eq_true_eq] at h; exact h.1
theorem PVal.str {K : PySem.W.Frag} {F H : Hp} {s : List Nat} {v : V} (h : PVal K F H (.str s) v) : v = .str ⟨s.toArray⟩ ∧ okS s = true := by
  have h := h.scal (by intro _ q; cases q) (by intro _ _ q; cases q)
  unfold R at h; exact h
theorem PVal.scr {K : PySem.W.Frag} {F H : Hp} {ns : List Int} {v : V} (s : Same F H) (h : PVal K F H (.scr ns) v) : ∃ a, v = .ref a ∧ SqL K H a (ns.map V.int) := by
  have h := h.scal (by intro _ q; cases q) (by intro _ _ q; cases q)
  unfold R at h
  obtain ⟨a, h1, h2⟩ := h
  exact ⟨a, h1, L2.Same.seq s h2⟩
theorem PVal.mono {K : PySem.W.Frag} {F F' H : Hp} {d : D} {v : V} (s : Same F F') (h : PVal K F H d v) : PVal K F' H d v := by
  rcases h with h | ⟨a, ho, e, h, o⟩
  · exact .inl (R.mono s _ _ h)
  · exact .inr ⟨a, ho, e, h, o.mono s⟩
theorem bne_emp {α : Type} (s : List α) : (!s.isEmpty) = ((s.length : Int) != 0) := by
  cases s with
  | nil => rfl
  | cons a r =>
    have h : (((a :: r).length : Nat) : Int) ≠ 0 := by simp only [List.length_cons]; omega
    simp; omega
theorem size_toA {α : Type} (s : List α) : s.toArray.size = s.length := by simp
theorem truth_ok {K : PySem.W.Frag} {F H : Hp} {d : D} {v : V} {b : Bool} (s : Same F H) (h : PVal K F H d v) (e : truth d = some b) : TruV K v H b := by
  cases d with
  | non => simp only [truth, Option.some.injEq] at e; subst e; rw [h.non]; rfl
  | bl c => simp only [truth, Option.some.injEq] at e; subst e; rw [h.bl]; rfl
  | int i => simp only [truth, Option.some.injEq] at e; subst e; rw [h.int]; rfl
  | str x =>
    simp only [truth, Option.some.injEq] at e; subst e
    obtain ⟨e1, e2⟩ := h.str
    rw [e1]
    exact ⟨by rw [sizeLine_eq]; show x.toArray.size ≤ _; rw [size_toA]; exact okS_len e2, by show _ = ((x.toArray.size : Int) != 0); rw [size_toA]; exact bne_emp x⟩
  | lst xs =>
    simp only [truth, Option.some.injEq] at e; subst e
    obtain ⟨a, vs, rfl, h1, h2⟩ := h.lst s
    refine .inl ⟨vs, SqL.of h1, ?_⟩
    have := RL.length _ _ h2
    cases xs <;> cases vs <;> simp_all
  | tup xs =>
    simp only [truth, Option.some.injEq] at e; subst e
    obtain ⟨a, vs, rfl, h1, h2⟩ := h.tup s
    refine .inr (.inl ⟨vs, h1, ?_⟩)
    have := RL.length _ _ h2
    cases xs <;> cases vs <;> simp_all
  | dic ks vs => cases e
  | scr ns =>
    simp only [truth, Option.some.injEq] at e; subst e
    obtain ⟨a, rfl, h1⟩ := h.scr s
    refine .inl ⟨_, h1, ?_⟩
    cases ns <;> rfl
section
variable {K : PySem.W.Frag} {φ : Act} {f g c : E} {t u : T} {σ : St} {H : Hp} {Q : VK}
theorem rT_E {Q : Bool → Hp → Prop} (h : rT K φ (tE f) σ H Q) : rE K φ f σ H fun x H' => ∃ k, TruV K x H' k ∧ Q k H' := by
  obtain ⟨F, env, b, env', r0, e, k⟩ := h
  unfold tE at e
  split at e
  · cases e
  · rename_i ra env1 ea
    refine ⟨F, env, ra, env1, r0, ea, fun F1 H1 x s1 r1 h1 => ?_⟩
    split at e
    · cases e
    · rename_i d ed
      split at e
      · cases e
      · rename_i b' eb
        cases e
        exact ⟨_, truth_ok r1.sub (r1.peek h1 ed) eb, k F1 H1 s1 r1⟩
theorem rT_B {Q : Bool → Hp → Prop} (h : rT K φ (tB f) σ H Q) : tTest (rE K φ f) σ H Q := by
  obtain ⟨F, env, b, env', r0, e, k⟩ := h
  unfold tB at e
  split at e
  · rename_i b' env1 ea
    cases e
    refine ⟨F, env, _, _, r0, ea, fun F1 H1 x s1 r1 h1 => ?_⟩
    have h1 : R K F1 (.bl b) x := h1
    unfold R at h1
    exact ⟨_, h1, k F1 H1 s1 r1⟩
  · cases e
theorem rT_and {Q : Bool → Hp → Prop} (h : rT K φ (tAnd t u) σ H Q) : L2.tAnd (rT K φ t) (rT K φ u) σ H Q := by
  obtain ⟨F, env, b, env', r0, e, k⟩ := h
  unfold tAnd at e
  split at e
  · cases e
  · rename_i b' env1 ea
    refine ⟨F, env, _, _, r0, ea, fun F1 H1 s1 r1 => ?_⟩
    cases b' with
    | true =>
      simp only [if_true] at e ⊢
      exact ⟨F1, env1, b, env', r1, e, fun F2 H2 s2 r2 => k F2 H2 (s1.trans s2) r2⟩
    | false =>
      simp only [Bool.false_eq_true, if_false] at e ⊢
      cases e
      exact k F1 H1 s1 r1
theorem rT_or {Q : Bool → Hp → Prop} (h : rT K φ (tOr t u) σ H Q) : L2.tOr (rT K φ t) (rT K φ u) σ H Q := by
  obtain ⟨F, env, b, env', r0, e, k⟩ := h
  unfold tOr at e
  split at e
  · cases e
  · rename_i b' env1 ea
    refine ⟨F, env, _, _, r0, ea, fun F1 H1 s1 r1 => ?_⟩
    cases b' with
    | false =>
      simp only [Bool.false_eq_true, if_false] at e ⊢
      exact ⟨F1, env1, b, env', r1, e, fun F2 H2 s2 r2 => k F2 H2 (s1.trans s2) r2⟩
    | true =>
      simp only [if_true] at e ⊢
      cases e
      exact k F1 H1 s1 r1
theorem rT_not {Q : Bool → Hp → Prop} (h : rT K φ (tNot t) σ H Q) : L2.tNot (rT K φ t) σ H Q := by
  obtain ⟨F, env, b, env', r0, e, k⟩ := h
  unfold tNot at e
  split at e
  · cases e
  · rename_i b' env1 ea
    cases e
    exact ⟨F, env, _, _, r0, ea, fun F1 H1 s1 r1 => k F1 H1 s1 r1⟩
theorem rE_and (h : rE K φ (eAnd f g) σ H Q) : tAndV (rE K φ f) (rE K φ g) σ H Q := by
  obtain ⟨F, env, q, env', r0, e, k⟩ := h
  unfold eAnd at e
  split at e
  · rename_i b' env1 ea
    refine ⟨F, env, _, _, r0, ea, fun F1 H1 x s1 r1 h1 => ?_⟩
    have h1 : R K F1 (.bl b') x := h1
    unfold R at h1
    refine ⟨b', h1, ?_⟩
    cases b' with
    | true =>
      simp only [if_true] at e ⊢
      exact ⟨F1, env1, q, env', r1, e, fun F2 H2 v s2 r2 h2 => k F2 H2 v (s1.trans s2) r2 h2⟩
    | false =>
      simp only [Bool.false_eq_true, if_false] at e ⊢
      cases e
      exact k F1 H1 _ s1 r1 (by show R _ _ _ _; unfold R; rfl)
  · cases e
theorem rE_or (h : rE K φ (eOr f g) σ H Q) : tOrV (rE K φ f) (rE K φ g) σ H Q := by
  obtain ⟨F, env, q, env', r0, e, k⟩ := h
  unfold eOr at e
  split at e
  · rename_i b' env1 ea
    refine ⟨F, env, _, _, r0, ea, fun F1 H1 x s1 r1 h1 => ?_⟩
    have h1 : R K F1 (.bl b') x := h1
    unfold R at h1
    refine ⟨b', h1, ?_⟩
    cases b' with
    | false =>
      simp only [Bool.false_eq_true, if_false] at e ⊢
      exact ⟨F1, env1, q, env', r1, e, fun F2 H2 v s2 r2 h2 => k F2 H2 v (s1.trans s2) r2 h2⟩
    | true =>
      simp only [if_true] at e ⊢
      cases e
      exact k F1 H1 _ s1 r1 (by show R _ _ _ _; unfold R; rfl)
  · cases e
theorem rE_if (h : rE K φ (eIf t f g) σ H Q) : L2.tIf (rT K φ t) (rE K φ f) (rE K φ g) σ H Q := by
  obtain ⟨F, env, q, env', r0, e, k⟩ := h
  unfold eIf at e
  split at e
  · cases e
  · rename_i b' env1 ea
    refine ⟨F, env, _, _, r0, ea, fun F1 H1 s1 r1 => ?_⟩
    cases b' with
    | true =>
      simp only [if_true] at e ⊢
      exact ⟨F1, env1, q, env', r1, e, fun F2 H2 v s2 r2 h2 => k F2 H2 v (s1.trans s2) r2 h2⟩
    | false =>
      simp only [Bool.false_eq_true, if_false] at e ⊢
      exact ⟨F1, env1, q, env', r1, e, fun F2 H2 v s2 r2 h2 => k F2 H2 v (s1.trans s2) r2 h2⟩
theorem rE_chain {r r' : R2} {fo fo' : D → D → Option RV} (hf : OpD K r fo) (hf' : OpD K r' fo') (h : rE K φ (eChain fo fo' f g c) σ H Q) : tChain r r' (rE K φ f) (rE K φ g) (rE K φ c) σ H Q := by
  obtain ⟨F, env, q, env', r0, e, k⟩ := h
  unfold eChain at e
  split at e
  · cases e
  · rename_i ra env1 ea
    refine ⟨F, env, ra, env1, r0, ea, fun F1 H1 x s1 r1 h1 => ?_⟩
    obtain ⟨F1', s1', r1', h1'⟩ := r1.settle h1
    split at e
    · cases e
    · rename_i rb env2 eb
      refine ⟨F1', env1, rb, env2, r1', eb, fun F2 H2 y s2 r2 h2 => ?_⟩
      obtain ⟨F2', s2', r2', h2'⟩ := r2.settle h2
      split at e
      · rename_i c' d' ec ed
        have hx : PVal K F2 H2 c' x := by
          cases ra with
          | fz dd => exact r2.peek (q := .fz dd) (R.mono s2 _ _ h1') ec
          | own dd => exact r2.peek (q := .fz dd) (R.mono s2 _ _ h1') ec
          | bor i => exact r2.peek (q := .bor i) h1' ec
          | tre dd => cases ec
        have hy := r2.peek h2 ed
        split at e
        · rename_i b' er
          obtain ⟨nb, go⟩ := hf F2' H2 x y c' d' _ (fun z H3 => ∃ k, z = .bl k ∧ (if k = true then rE K φ c σ H3 fun w' H4 => r' y w' H4 Q else Q (.bl false) H3)) r2'.sub (hx.mono s2') (hy.mono s2') er
          refine go ⟨fun v hv => ?_, fun ds _ _ z => by cases z⟩
          unfold R at hv
          refine ⟨b', hv, ?_⟩
          cases b' with
          | false =>
            simp only [Bool.false_eq_true, if_false] at e ⊢
            cases e
            exact k F2' H2 _ (s1.trans (s1'.trans (s2.trans s2'))) r2' (by show R _ _ _ _; unfold R; rfl)
          | true =>
            simp only [if_true] at e ⊢
            split at e
            · cases e
            · rename_i rc env3 e3
              refine ⟨F2', env2, rc, env3, r2', e3, fun F3 H3 w s3 r3 h3 => ?_⟩
              split at e
              · rename_i y2 z2 ey ez
                have hy2 : PVal K F3 H3 y2 y := by
                  cases rb with
                  | fz dd => exact r3.peek (q := .fz dd) (R.mono s3 _ _ h2') ey
                  | own dd => exact r3.peek (q := .fz dd) (R.mono s3 _ _ h2') ey
                  | bor i => exact r3.peek (q := .bor i) h2' ey
                  | tre dd => cases ey
                split at e
                · cases e
                · rename_i res eres
                  cases e
                  obtain ⟨nb2, go2⟩ := hf' F3 H3 y w y2 z2 _ Q r3.sub hy2 (r3.peek h3 ez) eres
                  exact go2 (resQ r3 nb2 fun F4 H4 v s4 r4 h4 => k F4 H4 v (s1.trans (s1'.trans (s2.trans (s2'.trans (s3.trans s4))))) r4 h4)
              · cases e
        · cases e
      · cases e
end

structure WTX (X : Cx) (Γ : Hp → Option Ea → Prop) (e : Expr) (f : T) : Prop where
  at' : ∀ φ : Act, Γ φ.F φ.ea → PW X e (rT X.K φ f)
theorem PW.weak {X : Cx} {e : Expr} {t t' : TT} (h : PW X e t) (w : ∀ σ H Q, t' σ H Q → t σ H Q) : PW X e t' := ⟨fun wh pins s σ H Q I q => h.run wh pins s σ H Q I (w _ _ _ q)⟩
section
variable {X : Cx} {Γ : Hp → Option Ea → Prop} {a b c : Expr} {f g h : E} {t u : T} {rest : List Expr} {pos : Pos}
theorem tx_val (ha : EX X Γ a f) (he : ∀ whole, isTrue a X.env whole = (do let v ← whole; standAt a.pos; holding [v] (truthy v)) := by intro _; rfl) : TX X Γ a (tE f) :=
  ⟨fun φ hφ => PT.weak (pt_truth (ha.at' φ hφ) he) fun _ _ _ h => rT_E h⟩
theorem tx_cmp {op : CmpOp} {r : R2} {fo : D → D → Option RV} (ho : OpR X (compareOp op) r) (hf : OpD X.K r fo) (ha : EX X Γ a f) (hb : EX X Γ b g) (hm : behindInMarks op b = false) : TX X Γ (.Compare a [op] [b] pos) (tB (eBin fo f g)) :=
  ⟨fun φ hφ => PT.weak (pt_cmpR ho (ha.at' φ hφ) (hb.at' φ hφ) hm) fun σ H Q h => by
    obtain q := rT_B h
    exact rE_bin hf q⟩
theorem tx_chain {op op' : CmpOp} {r r' : R2} {fo fo' : D → D → Option RV} (ho : OpR X (compareOp op) r) (hf : OpD X.K r fo) (ho' : OpR X (compareOp op') r') (hf' : OpD X.K r' fo') (ha : EX X Γ a f) (hb : EX X Γ b g) (hc : EX X Γ c h)
    (hm : lastMarks [op, op'] [b, c] = false := by with_unfolding_all rfl) : TX X Γ (.Compare a [op, op'] [b, c] pos) (tB (eChain fo fo' f g h)) :=
  ⟨fun φ hφ => PT.weak (pt_chain ho ho' (ha.at' φ hφ) (hb.at' φ hφ) (hc.at' φ hφ) hm) fun σ H Q h => by
    obtain q := rT_B h
    exact rE_chain hf hf' q⟩
theorem ex_chain {op op' : CmpOp} {r r' : R2} {fo fo' : D → D → Option RV} (ho : OpR X (compareOp op) r) (hf : OpD X.K r fo) (ho' : OpR X (compareOp op') r') (hf' : OpD X.K r' fo') (ha : EX X Γ a f) (hb : EX X Γ b g) (hc : EX X Γ c h)
    (hm : lastMarks [op, op'] [b, c] = false := by with_unfolding_all rfl) : EX X Γ (.Compare a [op, op'] [b, c] pos) (eChain fo fo' f g h) :=
  ⟨fun φ hφ => PE.weak (pe_chain ho ho' (ha.at' φ hφ) (hb.at' φ hφ) (hc.at' φ hφ) hm) fun σ H Q h => rE_chain hf hf' h⟩
theorem WTX.tx (h : WTX X Γ a t) : TX X Γ a t := ⟨fun φ hφ => (h.at' φ hφ).pt⟩
theorem wx_and1 (ha : TX X Γ a t) : WTX X Γ (.BoolOp .And [a] pos) t := ⟨fun φ hφ => pw_and1 (ha.at' φ hφ)⟩
theorem wx_or1 (ha : TX X Γ a t) : WTX X Γ (.BoolOp .Or [a] pos) t := ⟨fun φ hφ => pw_or1 (ha.at' φ hφ)⟩
theorem wx_and (ha : TX X Γ a t) (hb : WTX X Γ (.BoolOp .And (b :: rest) pos) u) : WTX X Γ (.BoolOp .And (a :: b :: rest) pos) (tAnd t u) :=
  ⟨fun φ hφ => PW.weak (pw_and (ha.at' φ hφ) (hb.at' φ hφ)) fun _ _ _ h => rT_and h⟩
theorem wx_or (ha : TX X Γ a t) (hb : WTX X Γ (.BoolOp .Or (b :: rest) pos) u) : WTX X Γ (.BoolOp .Or (a :: b :: rest) pos) (tOr t u) :=
  ⟨fun φ hφ => PW.weak (pw_or (ha.at' φ hφ) (hb.at' φ hφ)) fun _ _ _ h => rT_or h⟩
theorem tx_not (ha : TX X Γ a t) : TX X Γ (.UnaryOp .Not a pos) (tNot t) := ⟨fun φ hφ => PT.weak (pt_not (ha.at' φ hφ)) fun _ _ _ h => rT_not h⟩
theorem ex_one {op} (ha : EX X Γ a f) : EX X Γ (.BoolOp op [a] pos) f := ⟨fun φ hφ => pe_one (ha.at' φ hφ)⟩
theorem ex_and (ha : EX X Γ a f) (hb : EX X Γ (.BoolOp .And (b :: rest) pos) g) : EX X Γ (.BoolOp .And (a :: b :: rest) pos) (eAnd f g) :=
  ⟨fun φ hφ => PE.weak (pe_and (ha.at' φ hφ) (hb.at' φ hφ)) fun _ _ _ h => rE_and h⟩
theorem ex_or (ha : EX X Γ a f) (hb : EX X Γ (.BoolOp .Or (b :: rest) pos) g) : EX X Γ (.BoolOp .Or (a :: b :: rest) pos) (eOr f g) :=
  ⟨fun φ hφ => PE.weak (pe_or (ha.at' φ hφ) (hb.at' φ hφ)) fun _ _ _ h => rE_or h⟩
theorem un_not {K : PySem.W.Frag} : UnD K (fun x H Q => ∃ k, TruV K x H k ∧ Q (.bl (!k)) H) dNot := by
  intro F H x c res Q s hc e
  unfold dNot at e
  split at e
  · rename_i b eb
    cases e
    refine ⟨fun i q => (nomatch q), fun q => ⟨b, truth_ok s hc eb, q.1 _ (by unfold R; rfl)⟩⟩
  · cases e
theorem ex_not (ha : EX X Γ a f) : EX X Γ (.UnaryOp .Not a pos) (eNot f) :=
  ⟨fun φ hφ => PE.weak (pe_notT (ha.at' φ hφ)) fun _ _ _ h => rE_un un_not h⟩
theorem ex_if (hc : TX X Γ c t) (ha : EX X Γ a f) (hb : EX X Γ b g) : EX X Γ (.IfExp c a b pos) (eIf t f g) :=
  ⟨fun φ hφ => PE.weak (pe_ifExp (hc.at' φ hφ) (ha.at' φ hφ) (hb.at' φ hφ)) fun _ _ _ h => rE_if h⟩
end
end PV
end

section
set_option maxRecDepth 100000
namespace PV
open PySem PySem.Spec PyProof.Rows L2
variable [CodeTabs]

/-! ### stores -/
section
variable {K : PySem.W.Frag} {φ : Act} {F F' H : Hp} {env env' : Env} {σ : St}
theorem putSlot_shape {i : Nat} {s : Slot} (e : putSlot i s env = some env') : env' = env.set i s ∧ i < env.length ∧ ∀ k d, env[i]? ≠ some (.io k d) := by
  unfold putSlot at e
  split at e
  · cases e
  · rename_i x hs hx
    cases e
    refine ⟨rfl, ?_, fun k d q => ?_⟩
    · obtain ⟨h, _⟩ := List.getElem?_eq_some_iff.mp hx; exact h
    · exact hs k d (Option.some.inj (hx.symm.trans q))
  · cases e
theorem Rel.put (r : Rel K φ F env σ H) {i : Nat} {s : Slot} {v : V} (e : putSlot i s env = some env') (hs : SlotOk K φ F H s (some (some v)))
    (far : s.held = true → ∀ (j : Nat) (t : Slot), env[j]? = some t → t.held = true → σ[j]? ≠ some (some v))
    (farT : s.held = true → ∀ a, v = .ref a → NoTre K φ F H env σ a) (trh : ∀ d, s = .tre d → ∃ fp, TreV K φ F H d v fp ∧ ∀ a, a ∈ fp → (∀ (i : Nat) (s : Slot), env[i]? = some s → s.held = true → σ[i]? ≠ some (some (.ref a))) ∧ NoTre K φ F H env σ a) : Rel K φ F env' (σ.set i (some v)) H := by
  obtain ⟨rfl, hi, _⟩ := putSlot_shape e
  have hiσ : i < σ.length := by rw [← r.len]; exact hi
  refine ⟨r.sub, r.old, r.pres, r.new, fun j t ej => ?_, fun j k t u b hjk ej ek ht hu hj hk => ?_, by rw [List.length_set, List.length_set]; exact r.len, r.ioH, r.presT, r.tab, r.ntb, fun k d ek => ?_, r.ioA⟩
  · rcases getElem?_setE ej with ⟨rfl, rfl⟩ | ⟨ne, ej⟩
    · rw [List.getElem?_set_self hiσ]; exact hs
    · rw [List.getElem?_set_ne ne]; exact r.slot j t ej
  · rcases getElem?_setE ej with ⟨rfl, rfl⟩ | ⟨nj, ej2⟩
    · rcases getElem?_setE ek with ⟨rfl, rfl⟩ | ⟨nk, ek2⟩
      · exact hjk rfl
      · rw [List.getElem?_set_self hiσ] at hj
        rw [List.getElem?_set_ne nk] at hk
        cases hj
        exact far ht k u ek2 hu hk
    · rw [List.getElem?_set_ne nj] at hj
      rcases getElem?_setE ek with ⟨rfl, rfl⟩ | ⟨nk, ek2⟩
      · rw [List.getElem?_set_self hiσ] at hk
        cases hk
        exact far hu j t ej2 ht hj
      · rw [List.getElem?_set_ne nk] at hk
        exact r.dist j k t u b hjk ej2 ek2 ht hu hj hk
  · rcases getElem?_setE ek with ⟨rfl, rfl⟩ | ⟨nk, ek2⟩
    · obtain ⟨fp, h1, h2⟩ := trh d rfl
      refine ⟨v, fp, List.getElem?_set_self hiσ, h1, fun j t a ej ht hj hm => ?_, fun j d' v' fp' ne ej hv ht a hm => ?_⟩
      · rcases getElem?_setE ej with ⟨rfl, rfl⟩ | ⟨nj, ej2⟩
        · cases ht
        · rw [List.getElem?_set_ne nj] at hj
          exact (h2 a hm).1 j t ej2 ht hj
      · rcases getElem?_setE ej with ⟨rfl, _⟩ | ⟨nj, ej2⟩
        · exact absurd rfl ne
        · rw [List.getElem?_set_ne nj] at hv
          exact (h2 a hm).2 j d' v' fp' ej2 hv ht
    · obtain ⟨v0, fp, g1, g2, g3, g4⟩ := r.tre k d ek2
      refine ⟨v0, fp, by rw [List.getElem?_set_ne nk]; exact g1, g2, fun j t a ej ht hj hm => ?_, fun j d' v' fp' ne ej hv ht a hm => ?_⟩
      · rcases getElem?_setE ej with ⟨rfl, rfl⟩ | ⟨nj, ej2⟩
        · rw [List.getElem?_set_self hiσ] at hj
          cases hj
          exact farT ht a rfl k d v0 fp ek2 g1 g2 hm
        · rw [List.getElem?_set_ne nj] at hj
          exact g3 j t a ej2 ht hj hm
      · rcases getElem?_setE ej with ⟨rfl, rfl⟩ | ⟨nj, ej2⟩
        · rw [List.getElem?_set_self hiσ] at hv
          cases hv
          obtain ⟨fp2, h1, h2⟩ := trh d' rfl
          rw [ht.unique h1]
          exact fun hm2 => (h2 a hm2).2 k d v0 fp ek2 g1 g2 hm
        · rw [List.getElem?_set_ne nj] at hv
          exact g4 j d' v' fp' ne ej2 hv ht a hm
theorem Rel.putFz (r : Rel K φ F env σ H) {i : Nat} {d : D} {v : V} (e : putSlot i (.fz d) env = some env') (h : R K F d v) : Rel K φ F env' (σ.set i (some v)) H :=
  r.put e (.fz h) (fun z => nomatch z) (fun z => nomatch z) (fun d q => nomatch q)
theorem Rel.putOwn (r : Rel K φ F env σ H) {i : Nat} {d : D} {v : V} (e : putSlot i (.own d) env = some env') (h : RvOk K φ F H env σ (.own d) v) : Rel K φ F env' (σ.set i (some v)) H := by
  obtain ⟨a, ho, rfl, h1, h2, h3, h4, h5, h6⟩ := h
  exact r.put e (.own h1 h2 h3 h4) (fun _ j t ej ht q => h5 j t ej ht q) (fun _ b q => by cases q; exact h6) (fun d q => nomatch q)
theorem Rel.putTre (r : Rel K φ F env σ H) {i : Nat} {d : D} {v : V} (e : putSlot i (.tre d) env = some env') (h : RvOk K φ F H env σ (.tre d) v) : Rel K φ F env' (σ.set i (some v)) H :=
  r.put e .tre (fun z => nomatch z) (fun z => nomatch z) (fun d q => by cases q; exact h)
end

/-! ### exceptions, statements -/
abbrev CM := List (Addr × List Str)
def ExcOk (K : PySem.W.Frag) (F H : Hp) (cm : CM) (c : Nat) (ds : List D) (cls : Value) (d : Option Addr) : Prop :=
  ∃ C names, cm[c]? = some (C, names) ∧ cls = .ref C ∧ FldOk K F names ds d
def rO (K : PySem.W.Frag) (cm : CM) (φ : Act) (W : WX) (F : Hp) (D : Ends) : Out → Prop
  | .nxt env' => ∀ F' σ' H', Same F F' → Rel K φ F' env' σ' H' → D.nx σ' H'
  | .brk env' => ∀ F' σ' H', Same F F' → Rel K φ F' env' σ' H' → D.bk σ' H'
  | .cnt env' => ∀ F' σ' H', Same F F' → Rel K φ F' env' σ' H' → D.ct σ' H'
  | .ret r env' => ∀ F' σ' H' v, Same F F' → Rel K φ F' env' σ' H' → RvOk K φ F' H' env' σ' r v → D.rt v H'
  | .exc c ds env' => ∀ F' σ' H' cls d, Same F F' → Rel K φ F' env' σ' H' → ExcOk K F' H' cm c ds cls d → W cls d σ' H'
def rS (K : PySem.W.Frag) (cm : CM) (φ : Act) (W : WX) (f : S) : TS := fun D σ H => ∃ F env o, Rel K φ F env σ H ∧ f env = some o ∧ rO K cm φ W F D o
structure SX (X : Cx) (Γ : Hp → Option Ea → Prop) (cm : CM) (W : WX) (st : Stmt) (f : S) : Prop where
  at' : ∀ φ : Act, Γ φ.F φ.ea → PS X st (rS X.K cm φ W f)
structure SsX (X : Cx) (Γ : Hp → Option Ea → Prop) (cm : CM) (W : WX) (st : List Stmt) (f : S) : Prop where
  at' : ∀ φ : Act, Γ φ.F φ.ea → PSs X st (rS X.K cm φ W f)
theorem rO_from {K : PySem.W.Frag} {cm : CM} {φ : Act} {W : WX} {F F' : Hp} {D : Ends} {o : Out} (s : Same F F') (h : rO K cm φ W F D o) : rO K cm φ W F' D o := by
  cases o with
  | nxt e => exact fun F2 σ2 H2 s2 => h F2 σ2 H2 (s.trans s2)
  | brk e => exact fun F2 σ2 H2 s2 => h F2 σ2 H2 (s.trans s2)
  | cnt e => exact fun F2 σ2 H2 s2 => h F2 σ2 H2 (s.trans s2)
  | ret r e => exact fun F2 σ2 H2 v s2 => h F2 σ2 H2 v (s.trans s2)
  | exc c ds e => exact fun F2 σ2 H2 cls d s2 => h F2 σ2 H2 cls d (s.trans s2)

section
variable {K : PySem.W.Frag} {cm : CM} {φ : Act} {W : WX} {f g : S} {a : E} {t : T} {D : Ends} {σ : St} {H : Hp}
theorem rS_seq (h : rS K cm φ W (sSeq f g) D σ H) : tSeq (rS K cm φ W f) (rS K cm φ W g) D σ H := by
  obtain ⟨F, env, o, r0, e, k⟩ := h
  unfold sSeq at e
  split at e
  · cases e
  · rename_i env1 ef
    exact ⟨F, env, _, r0, ef, fun F1 σ1 H1 s1 r1 => ⟨F1, env1, o, r1, e, rO_from s1 k⟩⟩
  · rename_i o' hn ef
    cases e
    refine ⟨F, env, _, r0, ef, ?_⟩
    cases o with
    | nxt e => exact absurd rfl (hn e)
    | brk e => exact k
    | cnt e => exact k
    | ret r e => exact k
    | exc c ds e => exact k
theorem rS_pass (h : rS K cm φ W sPass D σ H) : tNext D σ H := by
  obtain ⟨F, env, o, r0, e, k⟩ := h
  cases e
  exact k F σ H (.refl _) r0
theorem rS_brk (h : rS K cm φ W sBrk D σ H) : tBreak D σ H := by
  obtain ⟨F, env, o, r0, e, k⟩ := h
  cases e
  exact k F σ H (.refl _) r0
theorem rS_cnt (h : rS K cm φ W sCnt D σ H) : tCont D σ H := by
  obtain ⟨F, env, o, r0, e, k⟩ := h
  cases e
  exact k F σ H (.refl _) r0
theorem rS_expr (h : rS K cm φ W (sExpr a) D σ H) : tDrop (rE K φ a) D σ H := by
  obtain ⟨F, env, o, r0, e, k⟩ := h
  unfold sExpr at e
  split at e
  · cases e
  · rename_i q env1 ea
    cases e
    exact ⟨F, env, q, env1, r0, ea, fun F1 H1 v s1 r1 _ => k F1 σ H1 s1 r1⟩
theorem rS_ret (h : rS K cm φ W (sRet a) D σ H) : tRet (rE K φ a) D σ H := by
  obtain ⟨F, env, o, r0, e, k⟩ := h
  unfold sRet at e
  split at e
  · cases e
  · rename_i q env1 ea
    cases e
    exact ⟨F, env, q, env1, r0, ea, fun F1 H1 v s1 r1 h1 => k F1 σ H1 v s1 r1 h1⟩
theorem rS_retN (h : rS K cm φ W sRetN D σ H) : tRetN D σ H := by
  obtain ⟨F, env, o, r0, e, k⟩ := h
  cases e
  exact k F σ H _ (.refl _) r0 (by show R _ _ _ _; unfold R; rfl)
theorem rS_if (h : rS K cm φ W (sIf t f g) D σ H) : tIfS (rT K φ t) (rS K cm φ W f) (rS K cm φ W g) D σ H := by
  obtain ⟨F, env, o, r0, e, k⟩ := h
  unfold sIf at e
  split at e
  · cases e
  · rename_i b env1 et
    refine ⟨F, env, b, env1, r0, et, fun F1 H1 s1 r1 => ?_⟩
    cases b with
    | true => exact ⟨F1, env1, o, r1, e, rO_from s1 k⟩
    | false => exact ⟨F1, env1, o, r1, e, rO_from s1 k⟩
theorem rS_set {i : Nat} (h : rS K cm φ W (sSet i a) D σ H) : tAsg (rE K φ a) (gName i) D σ H := by
  obtain ⟨F, env, o, r0, e, k⟩ := h
  unfold sSet at e
  split at e
  · cases e
  · rename_i d env1 ea
    refine ⟨F, env, _, env1, r0, ea, fun F1 H1 v s1 r1 h1 => ?_⟩
    split at e
    · cases e
    · rename_i env2 ep
      cases e
      exact k F1 _ H1 s1 (r1.putOwn ep h1)
  · rename_i d env1 ea
    refine ⟨F, env, _, env1, r0, ea, fun F1 H1 v s1 r1 h1 => ?_⟩
    split at e
    · cases e
    · rename_i env2 ep
      cases e
      exact k F1 _ H1 s1 (r1.putTre ep h1)
  · rename_i q env1 hn hn2 ea
    refine ⟨F, env, _, env1, r0, ea, fun F1 H1 v s1 r1 h1 => ?_⟩
    split at e
    · cases e
    · rename_i d env2 ef
      split at e
      · cases e
      · rename_i env3 ep
        cases e
        obtain ⟨F2, s2, r2, h2⟩ := r1.freeze h1 ef
        exact k F2 _ H1 (s1.trans s2) (r2.putFz ep h2)
end
section
variable {X : Cx} {Γ : Hp → Option Ea → Prop} {cm : CM} {W : WX} {e c : Expr} {a : E} {t : T} {f g : S} {st : Stmt} {rest sa sb : List Stmt} {pos : Pos}
theorem ssx_nil : SsX X Γ cm W [] sPass := ⟨fun φ hφ => PSs.weak pss_nil fun _ _ _ h => rS_pass h⟩
theorem ssx_cons (h1 : SX X Γ cm W st f) (h2 : SsX X Γ cm W rest g) : SsX X Γ cm W (st :: rest) (sSeq f g) := ⟨fun φ hφ => PSs.weak (pss_cons (h1.at' φ hφ) (h2.at' φ hφ)) fun _ _ _ h => rS_seq h⟩
theorem ssx_one (h1 : SX X Γ cm W st f) : SsX X Γ cm W [st] f := ⟨fun φ hφ => pss_one (h1.at' φ hφ)⟩
theorem sx_pass : SX X Γ cm W (.Pass pos) sPass := ⟨fun φ hφ => PS.weak ps_pass fun _ _ _ h => rS_pass h⟩
theorem sx_brk : SX X Γ cm W (.Break pos) sBrk := ⟨fun φ hφ => PS.weak ps_break fun _ _ _ h => rS_brk h⟩
theorem sx_cnt : SX X Γ cm W (.Continue pos) sCnt := ⟨fun φ hφ => PS.weak ps_continue fun _ _ _ h => rS_cnt h⟩
theorem sx_expr (he : EX X Γ e a) (hs : swapsWith e none pos.line X.env = pure false := by rfl) : SX X Γ cm W (.Expr e pos) (sExpr a) := ⟨fun φ hφ => PS.weak (ps_expr (he.at' φ hφ) hs) fun _ _ _ h => rS_expr h⟩
theorem sx_ret (he : EX X Γ e a) : SX X Γ cm W (.Return (some e) pos) (sRet a) := ⟨fun φ hφ => PS.weak (ps_ret (he.at' φ hφ)) fun _ _ _ h => rS_ret h⟩
theorem sx_retN : SX X Γ cm W (.Return none pos) sRetN := ⟨fun φ hφ => PS.weak ps_retN fun _ _ _ h => rS_retN h⟩
theorem sx_if (hc : TX X Γ c t) (ha : SsX X Γ cm W sa f) (hb : SsX X Γ cm W sb g) : SX X Γ cm W (.If c sa sb pos) (sIf t f g) := ⟨fun φ hφ => PS.weak (ps_if (hc.at' φ hφ) (ha.at' φ hφ) (hb.at' φ hφ)) fun _ _ _ h => rS_if h⟩
theorem sx_set {i : Nat} {x : Str} {pos' : Pos} (hN : X.N.Nodup) (hi : X.N[i]? = some x) (hx : Loc X.env.scope x) (he : EX X Γ e a) (hs : swapsWith e (some (.Name x pos')) pos.line X.env = pure false := by rfl) (hf : X.fn x = true ∨ X.env.scope.names.lookup x = some .local := by first | exact .inl rfl | exact .inr rfl | assumption) :
    SX X Γ cm W (.Assign [.Name x pos'] e pos) (sSet i a) := ⟨fun φ hφ => PS.weak (ps_set hN hi hx (he.at' φ hφ) hs hf) fun _ _ _ h => rS_set h⟩
end

/-! ### targets -/
def rG (K : PySem.W.Frag) (φ : Act) (t : Tg) : TG := fun v σ H Q => ∃ F env d env', Rel K φ F env σ H ∧ R K F d v ∧ t.put d env = some env' ∧ ∀ σ', (∀ vs, (∀ i ∈ t.names, i ∈ vs) → wipe σ' vs = wipe σ vs) → Rel K φ F env' σ' H → Q σ' H
def rGs (K : PySem.W.Frag) (φ : Act) (ts : List Tg) : TGs := fun vs σ H Q => ∃ F env ds env', Rel K φ F env σ H ∧ RL K F ds vs ∧ putL ts ds env = some env' ∧ ∀ σ', (∀ vs, (∀ i ∈ namesL ts, i ∈ vs) → wipe σ' vs = wipe σ vs) → Rel K φ F env' σ' H → Q σ' H
theorem set_comm' {α : Type} (l : List α) (i j : Nat) (x y : α) (h : i ≠ j) : (l.set i x).set j y = (l.set j y).set i x := List.set_comm _ _ h
theorem wipe_set {σ : St} {i : Nat} {x : Option V} : ∀ {vs : List Nat}, i ∈ vs → wipe (σ.set i x) vs = wipe σ vs
  | [], h => by cases h
  | v :: vs, h => by
    unfold wipe
    by_cases e : i = v
    · subst e
      by_cases m : i ∈ vs
      · rw [wipe_set m]
      · have : ∀ (vs : List Nat), i ∉ vs → wipe (σ.set i x) vs = (wipe σ vs).set i x := by
          intro vs
          induction vs with
          | nil => intro _; rfl
          | cons w ws ih =>
            intro hw
            simp only [List.mem_cons, not_or] at hw
            unfold wipe
            rw [ih hw.2, List.set_comm _ _ hw.1]
        rw [this vs m, List.set_set]
    · have m : i ∈ vs := by
        rcases List.mem_cons.mp h with q | q
        · exact absurd q e
        · exact q
      rw [wipe_set m]
structure GX (X : Cx) (Γ : Hp → Option Ea → Prop) (e : Expr) (t : Tg) : Prop where
  at' : ∀ φ : Act, Γ φ.F φ.ea → PG X e (rG X.K φ t)
structure GsX (X : Cx) (Γ : Hp → Option Ea → Prop) (es : List Expr) (ts : List Tg) : Prop where
  at' : ∀ φ : Act, Γ φ.F φ.ea → PGs X es (rGs X.K φ ts)
theorem PG.weak {X : Cx} {e : Expr} {t t' : TG} (h : PG X e t) (w : ∀ v σ H Q, t' v σ H Q → t v σ H Q) : PG X e t' := ⟨fun pins s σ H v u Q I r q => h.run pins s σ H v u Q I r (w _ _ _ _ q)⟩
theorem PGs.weak {X : Cx} {es : List Expr} {t t' : TGs} (h : PGs X es t) (w : ∀ v σ H Q, t' v σ H Q → t v σ H Q) : PGs X es t' := ⟨fun pins s σ H v u Q I r q => h.run pins s σ H v u Q I r (w _ _ _ _ q)⟩
section
variable {X : Cx} {Γ : Hp → Option Ea → Prop} {e : Expr} {es : List Expr} {t : Tg} {ts : List Tg} {pos : Pos}
theorem gx_nm {i : Nat} {x : Str} (hN : X.N.Nodup) (hi : X.N[i]? = some x) (hx : Loc X.env.scope x) (hf : X.fn x = true ∨ X.env.scope.names.lookup x = some .local := by first | exact .inl rfl | exact .inr rfl | assumption) : GX X Γ (.Name x pos) (.nm i) :=
  ⟨fun φ hφ => PG.weak (pg_name hN hi hx hf) fun v σ H Q ⟨F, env, d, env', r, h, e, k⟩ => by
    unfold Tg.put at e
    exact k _ (fun vs hv => wipe_set (hv i (by unfold Tg.names; exact List.mem_singleton.mpr rfl))) (r.putFz e h)⟩
theorem gsx_nil : GsX X Γ [] [] := ⟨fun φ hφ => PGs.weak pgs_nil fun v σ H Q ⟨F, env, ds, env', r, h, e, k⟩ => by
    cases ds with
    | nil => unfold putL at e; cases e; unfold RL at h; exact ⟨h, k _ (fun _ _ => rfl) r⟩
    | cons d ds => unfold putL at e; cases e⟩
theorem gsx_cons (h1 : GX X Γ e t) (h2 : GsX X Γ es ts) (hs : (assignEach (e :: es) X.env).map (·.2) = assign e X.env :: (assignEach es X.env).map (·.2) := by rfl) : GsX X Γ (e :: es) (t :: ts) :=
  ⟨fun φ hφ => PGs.weak (pgs_cons (h1.at' φ hφ) (h2.at' φ hφ) hs) fun vs σ H Q ⟨F, env, ds, env', r, h, e, k⟩ => by
    cases ds with
    | nil => unfold putL at e; cases e
    | cons d ds =>
      unfold putL at e
      unfold RL at h
      obtain ⟨v, r', rfl, h1, h2⟩ := h
      split at e
      · cases e
      · rename_i env1 e1
        exact ⟨v, r', rfl, F, env, d, env1, r, h1, e1, fun σ1 w1 r1 => ⟨F, env1, ds, env', r1, h2, e, fun σ2 w2 r2 => k σ2 (fun vs hv => (w2 vs fun i hi => hv i (by unfold namesL; exact List.mem_append_right _ hi)).trans (w1 vs fun i hi => hv i (by unfold namesL; exact List.mem_append_left _ hi))) r2⟩⟩⟩
theorem gx_tp {k : Nat} {n : Nat} (hc : X.calm = true) (h : GsX X Γ es ts) (hl : ts.length = n) (hn : (assignEach es X.env).length = n := by rfl) (hst : (assignEach es X.env).findIdx? (·.1) = none := by rfl) : GX X Γ (.Tuple es k pos) (.tp ts) :=
  ⟨fun φ hφ => PG.weak (pg_tup hc (h.at' φ hφ) hn hst) fun v σ H Q ⟨F, env, d, env', r, h, e, k⟩ => by
    unfold Tg.put at e
    split at e
    · rename_i ds
      have hh := h
      unfold R at h
      obtain ⟨a, vs, rfl, h1, h2⟩ := h
      refine ⟨a, vs, rfl, SqT.of (r.sub _ _ h1), ?_, F, env, ds, env', r, h2, e, fun σ' w r' => k σ' (fun vs hv => w vs fun i hi => hv i (by unfold Tg.names; exact hi)) r'⟩
      rw [← RL.length _ _ h2, ← hl]
      clear k
      have : ∀ (ts : List Tg) (ds : List PV.D) (env : Env), putL ts ds env = some env' → ds.length = ts.length := by
        intro ts
        induction ts with
        | nil => intro ds env e; cases ds with
          | nil => rfl
          | cons d ds => unfold putL at e; cases e
        | cons t ts ih => intro ds env e; cases ds with
          | nil => unfold putL at e; cases e
          | cons d ds =>
            unfold putL at e
            split at e
            · cases e
            · rename_i env1 e1
              simp [ih ds env1 e]
      exact this ts ds env e
    · cases e⟩
end
end PV
end

section
set_option maxRecDepth 100000
namespace PV
open PySem PySem.Spec PyProof.Rows L2
variable [CodeTabs]

/-! ### what is walked -/
structure Walks (K : PySem.W.Frag) (F : Hp) (J : It) (ds : List D) : Prop where
  le : ds.length ≤ 16777216
  go : ∀ i H, Same F H → i < ds.length → J.go i H
  stop : ∀ i H, Same F H → ds.length ≤ i → J.stop i H
  yld : ∀ i H x H', Same F H → J.yld i H x H' → i < ds.length → ∃ d, ds[i]? = some d ∧ ((H' = H ∧ R K F d x) ∨ (∃ T vs es, d = .tup es ∧ x = .ref T ∧ H T = none ∧ H' = upd H T (.tup vs) ∧ RL K F es vs) ∨ ∃ T U vs es d0 v0, d = .tup [d0, .tup es] ∧ x = .ref U ∧ H T = none ∧ H U = none ∧ U ≠ T ∧ H' = upd (upd H T (.tup vs)) U (.tup [v0, .ref T]) ∧ RL K F es vs ∧ R K F d0 v0)
def rI (K : PySem.W.Frag) (φ : Act) (it : I) : TI := fun σ H Rk => ∃ F env ds env', Rel K φ F env σ H ∧ it env = some (ds, env') ∧
  ∀ F' H' J, Same F F' → Rel K φ F' env' σ H' → Walks K F' J ds → Rk J H'
structure IX (X : Cx) (Γ : Hp → Option Ea → Prop) (tg iter : Expr) (it : I) : Prop where
  at' : ∀ φ : Act, Γ φ.F φ.ea → PI X tg iter (rI X.K φ it)

section
variable {K : PySem.W.Frag} {cm : CM} {φ : Act} {W : WX} {it : I} {tg : Tg} {body : S} {D : Ends} {σ : St} {H : Hp} {t : T}
theorem Walks.mono {F F' : Hp} {J : It} {ds : List PV.D} (s : Same F F') (w : Walks K F J ds) : Walks K F' J ds :=
  ⟨w.le, fun i H q => w.go i H (s.trans q), fun i H q => w.stop i H (s.trans q), fun i H x H' q y hi => by
    obtain ⟨d, e, h⟩ := w.yld i H x H' (s.trans q) y hi
    refine ⟨d, e, ?_⟩
    rcases h with ⟨h1, h2⟩ | ⟨T, vs, es, h1, h2, h3, h4, h5⟩ | ⟨T, U, vs, es, d0, v0, h1, h2, h3, h4, h6, h7, h5, h8⟩
    · exact .inl ⟨h1, R.mono s _ _ h2⟩
    · exact .inr (.inl ⟨T, vs, es, h1, h2, h3, h4, RL.mono s _ _ h5⟩)
    · exact .inr (.inr ⟨T, U, vs, es, d0, v0, h1, h2, h3, h4, h6, h7, RL.mono s _ _ h5, R.mono s _ _ h8⟩)⟩
/-- the item that comes, as a value -/
theorem Walks.item {F : Hp} {J : It} {ds : List PV.D} {env : Env} (w : Walks K F J ds) (r : Rel K φ F env σ H) {i : Nat} {x : V} {H' : Hp} (y : J.yld i H x H') (hi : i < ds.length) :
    ∃ d F', ds[i]? = some d ∧ Same F F' ∧ Rel K φ F' env σ H' ∧ R K F' d x ∧ Same H H' := by
  obtain ⟨d, e, h⟩ := w.yld i H x H' r.sub y hi
  rcases h with ⟨rfl, h2⟩ | ⟨T, vs, es, rfl, rfl, h3, rfl, h5⟩ | ⟨T, U, vs, es, d0, v0, rfl, rfl, h3, h4, h6, rfl, h5, h8⟩
  · exact ⟨d, F, e, .refl _, r, h2, .refl _⟩
  · obtain ⟨s, r'⟩ := r.fresh' (ho := .tup vs) h3
    refine ⟨_, _, e, s, r', ?_, upd_Same h3⟩
    unfold R
    exact ⟨T, vs, rfl, upd_same, RL.mono s _ _ h5⟩
  · obtain ⟨s, r'⟩ := r.fresh' (ho := .tup vs) h3
    have h4' : (upd _ T (.tup vs)) U = none := (upd_ne h6).trans h4
    obtain ⟨s2, r2⟩ := r'.fresh' (ho := .tup [v0, .ref T]) h4'
    refine ⟨_, _, e, s.trans s2, r2, ?_, (upd_Same h3).trans (upd_Same h4')⟩
    unfold R
    refine ⟨U, _, rfl, upd_same, RL.cons (R.mono (s.trans s2) _ _ h8) (RL.cons ?_ RL.nil)⟩
    unfold R
    exact ⟨T, vs, rfl, (upd_ne (Ne.symm h6)).trans upd_same, RL.mono (s.trans s2) _ _ h5⟩
theorem drop_get {α : Type} {l : List α} {i : Nat} {d : α} (h : l[i]? = some d) : l.drop i = d :: l.drop (i + 1) := by
  obtain ⟨hi, e⟩ := List.getElem?_eq_some_iff.mp h
  rw [List.drop_eq_getElem_cons hi, e]
theorem rS_for (h : rS K cm φ W (sFor it tg body) D σ H) : tFor (rI K φ it) (rG K φ tg) (rS K cm φ W body) D σ H := by
  obtain ⟨F, env, o, r0, e, k⟩ := h
  unfold sFor at e
  split at e
  · cases e
  · rename_i ds env1 ei
    refine ⟨F, env, ds, env1, r0, ei, fun F1 H1 J s1 r1 w => ?_⟩
    refine ⟨fun i m σ H => m = ds.length - i ∧ i ≤ ds.length ∧ ∃ F2 env2, Same F1 F2 ∧ Rel K φ F2 env2 σ H ∧ forL tg body (ds.drop i) env2 = some o, ⟨ds.length, by simp, Nat.zero_le _, F1, env1, .refl _, r1, by simpa using e⟩, ?_⟩
    rintro i m σ2 H2 ⟨rfl, hi, F2, env2, s2, r2, e2⟩
    by_cases hlt : i < ds.length
    · refine .inr ⟨w.go i H2 (s2.trans r2.sub) hlt, fun σ' H' => ∃ F2 env2, Same F1 F2 ∧ Rel K φ F2 env2 σ' H' ∧ forL tg body (ds.drop (i + 1)) env2 = some o, fun σ' H' hN => ⟨ds.length - (i + 1), by omega, rfl, hlt, hN⟩, fun x H' y => ?_⟩
      obtain ⟨d, F3, ed, s3, r3, h3, _⟩ := (w.mono s2).item r2 y hlt
      rw [drop_get ed] at e2
      unfold forL at e2
      split at e2
      · cases e2
      · rename_i env3 ep
        refine ⟨F3, env2, d, env3, r3, h3, ep, fun σ3 _ r4 => ?_⟩
        have s13 : Same F1 F3 := s2.trans s3
        split at e2
        · cases e2
        · rename_i e' eb
          exact ⟨F3, env3, _, r4, eb, fun F5 σ5 H5 s5 r5 => ⟨F5, e', s13.trans s5, r5, e2⟩⟩
        · rename_i e' eb
          exact ⟨F3, env3, _, r4, eb, fun F5 σ5 H5 s5 r5 => ⟨F5, e', s13.trans s5, r5, e2⟩⟩
        · rename_i e' eb
          cases e2
          exact ⟨F3, env3, _, r4, eb, fun F5 σ5 H5 s5 r5 => k F5 σ5 H5 (s1.trans (s13.trans s5)) r5⟩
        · rename_i o' n1 n2 n3 eb
          cases e2
          refine ⟨F3, env3, _, r4, eb, ?_⟩
          have k' := rO_from (s1.trans s13) k
          cases o with
          | nxt z => exact absurd rfl (n1 z)
          | brk z => exact absurd rfl (n3 z)
          | cnt z => exact absurd rfl (n2 z)
          | ret r z => exact k'
          | exc c ds z => exact k'
    · have ei : i = ds.length := by omega
      subst ei
      rw [List.drop_length] at e2
      unfold forL at e2
      cases e2
      exact .inl ⟨w.stop _ H2 (s2.trans r2.sub) (Nat.le_refl _), k F2 σ2 H2 (s1.trans s2) r2⟩
theorem rS_while {n : Nat} (h : rS K cm φ W (whileL t body n) D σ H) : tWhile (rT K φ t) (rS K cm φ W body) D σ H := by
  obtain ⟨F, env, o, r0, e, k⟩ := h
  refine ⟨fun m σ H => ∃ F2 env2, Same F F2 ∧ Rel K φ F2 env2 σ H ∧ whileL t body m env2 = some o, ⟨n, F, env, .refl _, r0, e⟩, ?_⟩
  rintro m σ2 H2 ⟨F2, env2, s2, r2, e2⟩
  cases m with
  | zero => cases e2
  | succ m =>
    unfold whileL at e2
    split at e2
    · cases e2
    · rename_i e' et
      cases e2
      exact ⟨F2, env2, _, _, r2, et, fun F3 H3 s3 r3 => by simp only [Bool.false_eq_true, if_false]; exact k F3 σ2 H3 (s2.trans s3) r3⟩
    · rename_i e' et
      refine ⟨F2, env2, _, _, r2, et, fun F3 H3 s3 r3 => ?_⟩
      simp only [if_true]
      have s03 : Same F F3 := s2.trans s3
      refine ⟨fun σ' H' => ∃ F2 env2, Same F F2 ∧ Rel K φ F2 env2 σ' H' ∧ whileL t body m env2 = some o, fun σ' H' hN => ⟨m, Nat.lt_succ_self _, hN⟩, ?_⟩
      split at e2
      · cases e2
      · rename_i e3 eb
        exact ⟨F3, _, _, r3, eb, fun F5 σ5 H5 s5 r5 => ⟨F5, _, s03.trans s5, r5, e2⟩⟩
      · rename_i e3 eb
        exact ⟨F3, _, _, r3, eb, fun F5 σ5 H5 s5 r5 => ⟨F5, _, s03.trans s5, r5, e2⟩⟩
      · rename_i e3 eb
        cases e2
        exact ⟨F3, _, _, r3, eb, fun F5 σ5 H5 s5 r5 => k F5 σ5 H5 (s03.trans s5) r5⟩
      · rename_i o' n1 n2 n3 eb
        cases e2
        refine ⟨F3, _, _, r3, eb, ?_⟩
        have k' := rO_from s03 k
        cases o with
        | nxt z => exact absurd rfl (n1 z)
        | brk z => exact absurd rfl (n3 z)
        | cnt z => exact absurd rfl (n2 z)
        | ret r z => exact k'
        | exc c ds z => exact k'
end

/-! ### comprehensions -/
section
variable {K : PySem.W.Frag} {φ : Act} {F H : Hp} {env : Env} {σ : St}
/-- an object that nothing here knows is hidden -/
abbrev Act.hide (φ : Act) (D : Addr) (ho : HO) : Act := ⟨φ.F, upd φ.H D ho, φ.io, φ.ea⟩
def Far (env : Env) (σ : St) (D : Addr) : Prop := ∀ (i : Nat) (s : Slot), env[i]? = some s → s.held = true → σ[i]? ≠ some (some (.ref D))
theorem Rel.hide (r : Rel K φ F env σ H) {D : Addr} {ho : HO} (hD : H D = some ho) (hF : F D = none) (hn : φ.H D = none) (far : Far env σ D) (farT : NoTre K φ F H env σ D) (hz : ∀ ps, ho ≠ .tbl ps := by intro ps q; cases q) : Rel K (φ.hide D ho) F env σ H := by
  refine ⟨r.sub, r.old, fun b o e1 e2 e3 => ?_, fun b o e => ?_, fun i s e => ?_, r.dist, r.len, r.ioH, fun b ps e => ?_, r.tab, r.ntb,
    r.tre.move (.refl _) (fun i d e => ⟨e, rfl⟩) (fun i d v fp b e hv ht hb => ⟨(ht.mem hb).1, rfl, by
      show upd φ.H D ho b = none
      rw [upd_ne fun q => farT i d v fp e hv ht (by rw [← q]; exact hb)]; exact (ht.mem hb).2.1⟩) fun i d v fp j u a _ _ _ ej hu hj _ => ⟨u, ej, hu, hj⟩, fun a ha => by
      show ∃ o, upd φ.H D ho a = some o
      by_cases q : a = D
      · rw [q]; exact ⟨_, upd_same⟩
      · rw [upd_ne q]; exact r.ioA a ha⟩
  · by_cases q : b = D
    · subst q
      have e1 : upd φ.H b ho b = some o := e1
      rw [upd_same] at e1; cases e1; exact hD
    · have e1 : upd φ.H D ho b = some o := e1
      rw [upd_ne q] at e1; exact r.pres b o e1 e2 e3
  · by_cases q : b = D
    · subst q; rw [hF] at e; cases e
    · rcases r.new b o e with h | h
      · exact .inl h
      · exact .inr (by show upd φ.H D ho b = none; rw [upd_ne q]; exact h)
  · have h := r.slot i s e
    generalize hσ : σ[i]? = o at h
    cases h with
    | un => exact .un
    | fz h => exact .fz h
    | own h1 h2 h3 h4 =>
      refine .own h1 h2 h3 ?_
      rename_i a _
      have ne : a ≠ D := fun q => far i _ e rfl (by rw [hσ, q])
      show upd φ.H D ho a = none
      rw [upd_ne ne]; exact h4
    | io h1 h2 h3 h4 => exact .io h1 h2 h3 h4
    | ex h1 h2 h3 => exact .ex h1 h2 h3
    | tre => exact .tre
  · by_cases q : b = D
    · subst q
      have e : upd φ.H b ho b = some (.tbl ps) := e
      rw [upd_same] at e; exact (hz ps (Option.some.inj e)).elim
    · have e : upd φ.H D ho b = some (.tbl ps) := e
      rw [upd_ne q] at e; exact r.presT b ps e
theorem Rel.unhide {D : Addr} {ho : HO} (r : Rel K (φ.hide D ho) F env σ H) (hn : φ.H D = none) (hf : φ.F D = none) (hio : D ∉ φ.io) (hz : ∀ ps, ho ≠ .tbl ps := by intro ps q; cases q) :
    Rel K φ F env σ H ∧ H D = some ho ∧ F D = none ∧ Far env σ D ∧ NoTre K φ F H env σ D := by
  have hD : H D = some ho := r.pres D ho (by show upd φ.H D ho D = some ho; exact upd_same) hio hz
  have hF : F D = none := by
    cases q : F D with
    | none => rfl
    | some o =>
      rcases r.new D o q with h | h
      · have h : φ.F D = some o := h
        rw [hf] at h; cases h
      · have h : upd φ.H D ho D = none := h
        rw [upd_same] at h; cases h
  have un : ∀ b, upd φ.H D ho b = none → φ.H b = none := fun b h => by
    by_cases q : b = D
    · subst q; rw [upd_same] at h; cases h
    · rw [upd_ne q] at h; exact h
  have nT : NoTre K (φ.hide D ho) F H env σ D := fun i d v fp e hv ht hm => by
    have h : upd φ.H D ho D = none := (ht.mem hm).2.1
    rw [upd_same] at h; cases h
  refine ⟨⟨r.sub, r.old, fun b o e1 e2 e3 => ?_, fun b o e => ?_, fun i s e => ?_, r.dist, r.len, r.ioH, fun b ps e => ?_, r.tab, r.ntb,
    r.tre.move (.refl _) (fun i d e => ⟨e, rfl⟩) (fun i d v fp b e hv ht hb => ⟨(ht.mem hb).1, rfl, un b (ht.mem hb).2.1⟩) fun i d v fp j u a _ _ _ ej hu hj _ => ⟨u, ej, hu, hj⟩, fun a ha => by
      obtain ⟨o, q⟩ := r.ioA a ha
      have q : upd φ.H D ho a = some o := q
      rw [upd_ne fun z => hio (by rw [← z]; exact ha)] at q
      exact ⟨o, q⟩⟩, hD, hF, fun i s e hs q => ?_,
    nT.move r.tre (.refl _) (fun i d e => ⟨e, rfl⟩) fun i d v fp b e hv ht hb => ⟨(ht.mem hb).1, rfl, un b (ht.mem hb).2.1⟩⟩
  · have ne : b ≠ D := fun q => by subst q; rw [hn] at e1; cases e1
    exact r.pres b o (by show upd φ.H D ho b = some o; rw [upd_ne ne]; exact e1) e2 e3
  · rcases r.new b o e with h | h
    · exact .inl h
    · have h : upd φ.H D ho b = none := h
      by_cases q : b = D
      · subst q; rw [upd_same] at h; cases h
      · rw [upd_ne q] at h; exact .inr h
  · have h := r.slot i s e
    generalize hσ : σ[i]? = o at h
    cases h with
    | un => exact .un
    | fz h => exact .fz h
    | own h1 h2 h3 h4 =>
      refine .own h1 h2 h3 ?_
      rename_i a _
      have h4 : upd φ.H D ho a = none := h4
      by_cases q : a = D
      · subst q; exact hn
      · rw [upd_ne q] at h4; exact h4
    | io h1 h2 h3 h4 => exact .io h1 h2 h3 h4
    | ex h1 h2 h3 => exact .ex h1 h2 h3
    | tre => exact .tre
  · have ne : b ≠ D := fun q => by subst q; rw [hn] at e; cases e
    exact r.presT b ps (by show upd φ.H D ho b = some (.tbl ps); rw [upd_ne ne]; exact e)
  · have h := r.slot i s e
    rw [q] at h
    cases h with
    | un => cases hs
    | fz h => cases hs
    | own h1 h2 h3 h4 =>
      have h4 : upd φ.H D ho D = none := h4
      rw [upd_same] at h4; cases h4
    | io h1 h2 h3 h4 => exact hio (List.mem_of_getElem? h1)
    | ex h1 h2 h3 => cases hs
    | tre => cases hs
/-- that object changes -/
theorem Rel.turn (r : Rel K φ F env σ H) {D : Addr} {ho ho' : HO} (hD : H D = some ho) (hF : F D = none) (hn : φ.H D = none) (far : Far env σ D) (farT : NoTre K φ F H env σ D) (hz : ∀ ps, ho ≠ .tbl ps := by intro ps q; cases q) (hz2 : ∀ Q, ho ≠ .ext Q := by intro ps q; cases q) : Rel K φ F env σ (upd H D ho') := by
  refine ⟨Same.upd_r hF r.sub, r.old, fun b o e1 e2 e3 => ?_, r.new, fun i s e => ?_, r.dist, r.len, fun a h => ?_, fun b ps e => ?_, tabs_write r.tab hD hz hz2, r.ntb,
    r.tre.move (.refl _) (fun i d e => ⟨e, rfl⟩) (fun i d v fp b e hv ht hb => ⟨(ht.mem hb).1, by rw [upd_ne fun q => farT i d v fp e hv ht (by rw [← q]; exact hb)], (ht.mem hb).2.1⟩) fun i d v fp j u a _ _ _ ej hu hj _ => ⟨u, ej, hu, hj⟩, r.ioA⟩
  · have ne : b ≠ D := fun q => by subst q; rw [hn] at e1; cases e1
    rw [upd_ne ne]; exact r.pres b o e1 e2 e3
  · have h := r.slot i s e
    generalize hσ : σ[i]? = o at h
    cases h with
    | un => exact .un
    | fz h => exact .fz h
    | own h1 h2 h3 h4 =>
      rename_i a _
      have ne : a ≠ D := fun q => far i _ e rfl (by rw [hσ, q])
      exact .own (by rw [upd_ne ne]; exact h1) h2 h3 h4
    | io h1 h2 h3 h4 =>
      rename_i a _
      have ne : a ≠ D := fun q => far i _ e rfl (by rw [hσ, q])
      exact .io h1 (by rw [upd_ne ne]; exact h2) h3 h4
    | ex h1 h2 h3 => exact .ex h1 h2 h3
    | tre => exact .tre
  · obtain ⟨o, q⟩ := r.ioH a h
    by_cases e : a = D
    · subst e; exact ⟨ho', upd_same⟩
    · exact ⟨o, by rw [upd_ne e]; exact q⟩
  · obtain ⟨qs, q⟩ := r.presT b ps e
    exact ⟨qs, by rw [upd_ne fun z => by subst z; rw [hD] at q; exact hz qs (Option.some.inj q)]; exact q⟩
theorem NoTre.turn (r : Rel K φ F env σ H) {D : Addr} {ho' : HO} (farT : NoTre K φ F H env σ D) {a : Addr} (n : NoTre K φ F H env σ a) : NoTre K φ F (upd H D ho') env σ a :=
  n.move r.tre (.refl _) (fun i d e => ⟨e, rfl⟩) fun i d v fp b e hv ht hb => ⟨(ht.mem hb).1, by rw [upd_ne fun q => farT i d v fp e hv ht (by rw [← q]; exact hb)], (ht.mem hb).2.1⟩
theorem Rel.unset (r : Rel K φ F env σ H) (v : Nat) : Rel K φ F (env.set v .un) (σ.set v none) H := by
  refine ⟨r.sub, r.old, r.pres, r.new, fun j t ej => ?_, fun j k s t a hjk ej ek hs ht hj hk => ?_, by rw [List.length_set, List.length_set]; exact r.len, r.ioH, r.presT, r.tab, r.ntb, r.tre.move (.refl _) (fun i d e => ?_) (fun i d v fp b e hv ht hb => ⟨(ht.mem hb).1, rfl, (ht.mem hb).2.1⟩) fun i d v fp j u a _ _ _ ej hu hj _ => ?_, r.ioA⟩
  · rcases getElem?_setE ej with ⟨rfl, rfl⟩ | ⟨ne, ej⟩
    · exact .un
    · rw [List.getElem?_set_ne ne]; exact r.slot j t ej
  · rcases getElem?_setE ej with ⟨rfl, rfl⟩ | ⟨nj, ej2⟩
    · cases hs
    · rcases getElem?_setE ek with ⟨rfl, rfl⟩ | ⟨nk, ek2⟩
      · cases ht
      · rw [List.getElem?_set_ne nj] at hj
        rw [List.getElem?_set_ne nk] at hk
        exact r.dist j k s t a hjk ej2 ek2 hs ht hj hk
  · rcases getElem?_setE e with ⟨rfl, q⟩ | ⟨ne, e⟩
    · cases q
    · exact ⟨e, List.getElem?_set_ne ne⟩
  · rcases getElem?_setE ej with ⟨rfl, rfl⟩ | ⟨ne, ej⟩
    · cases hu
    · rw [List.getElem?_set_ne ne] at hj; exact ⟨u, ej, hu, hj⟩
/-- what belongs to no tree, where names are forgotten -/
theorem NoTre.unset (r : Rel K φ F env σ H) {a : Addr} (n : NoTre K φ F H env σ a) (v : Nat) : NoTre K φ F H (env.set v .un) (σ.set v none) a :=
  n.move r.tre (.refl _) (fun i d e => by
    rcases getElem?_setE e with ⟨rfl, q⟩ | ⟨ne, e⟩
    · cases q
    · exact ⟨e, List.getElem?_set_ne ne⟩) fun i d v fp b e hv ht hb => ⟨(ht.mem hb).1, rfl, (ht.mem hb).2.1⟩
theorem Rel.wipe (r : Rel K φ F env σ H) : ∀ vs : List Nat, Rel K φ F (wipeE vs env) (L2.wipe σ vs) H
  | [] => r
  | v :: vs => by
    show Rel K φ F ((wipeE vs env).set v .un) ((L2.wipe σ vs).set v none) H
    exact (Rel.wipe r vs).unset v
theorem NoTre.wipe (r : Rel K φ F env σ H) {a : Addr} (n : NoTre K φ F H env σ a) : ∀ vs : List Nat, NoTre K φ F H (wipeE vs env) (L2.wipe σ vs) a
  | [] => n
  | v :: vs => by
    show NoTre K φ F H ((wipeE vs env).set v .un) ((L2.wipe σ vs).set v none) a
    exact (NoTre.wipe r n vs).unset (Rel.wipe r vs) v
theorem wipe_wipe (σ : St) : ∀ vs : List Nat, L2.wipe (L2.wipe σ vs) vs = L2.wipe σ vs := fun vs => by
  have g : ∀ (us : List Nat), (∀ u ∈ us, u ∈ vs) → L2.wipe (L2.wipe σ vs) us = L2.wipe σ vs := by
    intro us
    induction us with
    | nil => intro _; rfl
    | cons u us ih =>
      intro h
      show (L2.wipe (L2.wipe σ vs) us).set u none = _
      rw [ih fun w hw => h w (List.mem_cons_of_mem _ hw)]
      have hu := h u List.mem_cons_self
      have : (L2.wipe σ vs)[u]? = some none ∨ (L2.wipe σ vs)[u]? = none := by
        clear ih h
        induction vs with
        | nil => cases hu
        | cons v vs ih =>
          show ((L2.wipe σ vs).set v none)[u]? = _ ∨ ((L2.wipe σ vs).set v none)[u]? = _
          by_cases e : v = u
          · subst e
            by_cases hl : v < (L2.wipe σ vs).length
            · exact .inl (List.getElem?_set_self hl)
            · exact .inr (by rw [List.getElem?_eq_none]; rw [List.length_set]; omega)
          · rw [List.getElem?_set_ne e]
            exact ih (by rcases List.mem_cons.mp hu with q | q; exact absurd q.symm e; exact q)
      apply List.ext_getElem?
      intro j
      rw [List.getElem?_set]
      by_cases e : u = j
      · subst e
        rw [if_pos rfl]
        split
        · rename_i hl
          rcases this with q | q
          · exact q.symm
          · rw [List.getElem?_eq_none_iff] at q; omega
        · rename_i hl
          rw [List.getElem?_eq_none]; omega
      · rw [if_neg e]
  exact g vs fun _ h => h
theorem wipeE_len (vs : List Nat) (env : Env) : (wipeE vs env).length = env.length := by
  induction vs with
  | nil => rfl
  | cons v vs ih => show ((wipeE vs env).set v .un).length = _; rw [List.length_set, ih]
theorem wipeE_get {vs : List Nat} {env : Env} {i : Nat} {s : Slot} (h : (wipeE vs env)[i]? = some s) : (s = .un) ∨ (i ∉ vs ∧ env[i]? = some s) := by
  induction vs generalizing s with
  | nil => exact .inr ⟨by simp, h⟩
  | cons v vs ih =>
    have h : ((wipeE vs env).set v .un)[i]? = some s := h
    rcases getElem?_setE h with ⟨rfl, rfl⟩ | ⟨ne, h⟩
    · exact .inl rfl
    · rcases ih h with q | ⟨q1, q2⟩
      · exact .inl q
      · exact .inr ⟨by simp only [List.mem_cons, not_or]; exact ⟨Ne.symm ne, q1⟩, q2⟩
theorem wipeE_out {vs : List Nat} {env : Env} {i : Nat} (h : i ∉ vs) : (wipeE vs env)[i]? = env[i]? := by
  induction vs with
  | nil => rfl
  | cons v vs ih =>
    simp only [List.mem_cons, not_or] at h
    show ((wipeE vs env).set v .un)[i]? = _
    rw [List.getElem?_set_ne (Ne.symm h.1), ih h.2]
theorem backE_get {vs : List Nat} {old env : Env} {i : Nat} {s : Slot} (h : (backE vs old env)[i]? = some s) : (i ∈ vs ∧ s = old.getD i .un) ∨ (i ∉ vs ∧ env[i]? = some s) := by
  induction vs generalizing s with
  | nil => exact .inr ⟨by simp, h⟩
  | cons v vs ih =>
    have h : ((backE vs old env).set v (old.getD v .un))[i]? = some s := h
    rcases getElem?_setE h with ⟨rfl, rfl⟩ | ⟨ne, h⟩
    · exact .inl ⟨List.mem_cons_self, rfl⟩
    · rcases ih h with ⟨q1, q2⟩ | ⟨q1, q2⟩
      · exact .inl ⟨List.mem_cons_of_mem _ q1, q2⟩
      · exact .inr ⟨by simp only [List.mem_cons, not_or]; exact ⟨Ne.symm ne, q1⟩, q2⟩
theorem backE_len (vs : List Nat) (old env : Env) : (backE vs old env).length = env.length := by
  induction vs with
  | nil => rfl
  | cons v vs ih => show ((backE vs old env).set v _).length = _; rw [List.length_set, ih]
theorem wipeable_at {vs : List Nat} {env : Env} (h : wipeable vs env = true) {i : Nat} (hi : i ∈ vs) : env[i]? = some .un ∨ ∃ d, env[i]? = some (.fz d) := by
  unfold wipeable at h
  have q := List.all_eq_true.mp h i hi
  split at q
  · rename_i e; exact .inl e
  · rename_i d e; exact .inr ⟨d, e⟩
  · cases q
theorem Rel.back {F1 H1 : Hp} {env1 : Env} (r1 : Rel K φ F1 env1 σ H1) (s : Same F1 F) {vs : List Nat} (hw : wipeable vs env1 = true) {env2 : Env} (r : Rel K φ F (wipeE vs env2) (L2.wipe σ vs) H) : Rel K φ F (backE vs env1 env2) σ H := by
  have l2 : env2.length = σ.length := by
    have := r.len
    rw [wipeE_len, wipe_length] at this
    exact this
  refine ⟨r.sub, r.old, r.pres, r.new, fun i t e => ?_, fun j k u t a hjk ej ek hu ht hj hk => ?_, by rw [backE_len]; exact l2, r.ioH, r.presT, r.tab, r.ntb, r.tre.move (.refl _) (fun i d e => ?_) (fun i d v fp b e hv ht hb => ⟨(ht.mem hb).1, rfl, (ht.mem hb).2.1⟩) fun i d v fp j u a _ _ _ ej hu hj _ => ?_, r.ioA⟩
  · rcases backE_get e with ⟨hi, rfl⟩ | ⟨hi, e⟩
    · rcases wipeable_at hw hi with q | ⟨d, q⟩
      · rw [List.getD_eq_getElem?_getD, q]; exact .un
      · have h := r1.slot i _ q
        rw [List.getD_eq_getElem?_getD, q]
        generalize hσ : σ[i]? = o at h
        cases h with
        | fz h => exact .fz (R.mono s _ _ h)
    · have h := r.slot i t (by rw [wipeE_out hi]; exact e)
      rw [wipe_out hi] at h
      exact h
  · have far : ∀ {i : Nat} {s : Slot}, (backE vs env1 env2)[i]? = some s → s.held = true → i ∉ vs ∧ env2[i]? = some s := fun {i s} e hs => by
      rcases backE_get e with ⟨hi, rfl⟩ | q
      · rcases wipeable_at hw hi with q | ⟨d, q⟩
        · rw [List.getD_eq_getElem?_getD, q] at hs; cases hs
        · rw [List.getD_eq_getElem?_getD, q] at hs; cases hs
      · exact q
    obtain ⟨nj, ej'⟩ := far ej hu
    obtain ⟨nk, ek'⟩ := far ek ht
    exact r.dist j k u t a hjk (by rw [wipeE_out nj]; exact ej') (by rw [wipeE_out nk]; exact ek') hu ht (by rw [wipe_out nj]; exact hj) (by rw [wipe_out nk]; exact hk)
  · rcases backE_get e with ⟨hi, q⟩ | ⟨hi, e⟩
    · rcases wipeable_at hw hi with z | ⟨d', z⟩
      · rw [List.getD_eq_getElem?_getD, z] at q; cases q
      · rw [List.getD_eq_getElem?_getD, z] at q; cases q
    · exact ⟨by rw [wipeE_out hi]; exact e, (wipe_out hi).symm⟩
  · rcases backE_get ej with ⟨hi, q⟩ | ⟨hi, e⟩
    · rcases wipeable_at hw hi with z | ⟨d', z⟩
      · rw [List.getD_eq_getElem?_getD, z] at q; subst q; cases hu
      · rw [List.getD_eq_getElem?_getD, z] at q; subst q; cases hu
    · exact ⟨u, by rw [wipeE_out hi]; exact e, hu, by rw [wipe_out hi]; exact hj⟩
theorem NoTre.back {env1 : Env} {vs : List Nat} (hw : wipeable vs env1 = true) {env2 : Env} (r : Rel K φ F (wipeE vs env2) (L2.wipe σ vs) H) {a : Addr} (n : NoTre K φ F H (wipeE vs env2) (L2.wipe σ vs) a) : NoTre K φ F H (backE vs env1 env2) σ a :=
  n.move r.tre (.refl _) (fun i d e => by
    rcases backE_get e with ⟨hi, q⟩ | ⟨hi, e⟩
    · rcases wipeable_at hw hi with z | ⟨d', z⟩
      · rw [List.getD_eq_getElem?_getD, z] at q; cases q
      · rw [List.getD_eq_getElem?_getD, z] at q; cases q
    · exact ⟨by rw [wipeE_out hi]; exact e, (wipe_out hi).symm⟩) fun i d v fp b e hv ht hb => ⟨(ht.mem hb).1, rfl, (ht.mem hb).2.1⟩
end
section
variable {K : PySem.W.Frag} {φ : Act} {it : I} {tg : Tg} {t : T} {elt : E} {vs : List Nat} {σ : St} {H : Hp} {Q : VK}
theorem rE_lc {Γ : Hp → Option Ea → Prop} (hφ : Γ φ.F φ.ea) (hv : ∀ i ∈ tg.names, i ∈ vs) (h : rE K φ (eLc it tg t elt vs) σ H Q) :
    tLc (rI K φ it) (fun v σ H Q => ∃ φ : Act, Γ φ.F φ.ea ∧ rG K φ tg v σ H Q) (fun σ H Q => ∃ φ : Act, Γ φ.F φ.ea ∧ rT K φ t σ H Q) (fun σ H Q => ∃ φ : Act, Γ φ.F φ.ea ∧ rE K φ elt σ H Q) vs σ H Q := by
  obtain ⟨F, env, q, env', r0, e, k⟩ := h
  unfold eLc at e
  split at e
  · cases e
  · rename_i ds env1 ei
    refine ⟨F, env, ds, env1, r0, ei, fun F1 H1 J s1 r1 w D hD => ?_⟩
    split at e
    · rename_i hw
      split at e
      · cases e
      · rename_i xs envN el
        cases e
        have hF1 : F1 D = none := Same.free r1.sub hD
        have hn : φ.H D = none := r1.actNone hD
        have hf : φ.F D = none := Same.free r1.old hF1
        have hio : D ∉ φ.io := fun q => by obtain ⟨o, z⟩ := r1.ioH D q; rw [hD] at z; cases z
        have rD := (r1.laid (ho := .lst []) hD).wipe vs
        refine ⟨fun i m H => m = ds.length - i ∧ i ≤ ds.length ∧ ∃ F2 env2 accd acc, Same F1 F2 ∧ Rel K φ F2 (wipeE vs env2) (L2.wipe σ vs) H ∧ H D = some (.lst acc) ∧ RL K F2 accd acc ∧ F2 D = none ∧ (Far (wipeE vs env2) (L2.wipe σ vs) D ∧ NoTre K φ F2 H (wipeE vs env2) (L2.wipe σ vs) D) ∧ acc.length ≤ i ∧ lcL tg t elt vs (ds.drop i) accd env2 = some (xs, envN),
          ⟨ds.length, by simp, Nat.zero_le _, F1, env1, [], [], .refl _, rD, upd_same, RL.nil, hF1, ⟨fun i s e hs q => ?_, NoTre.wipe (r1.laid hD) (r1.laidT hD (Rel.farT hD)) vs⟩, Nat.zero_le _, by simpa using el⟩, ?_⟩
        · rcases wipeE_get e with rfl | ⟨hi, e⟩
          · cases hs
          · rw [wipe_out hi] at q
            exact r1.far hD i s e hs q
        rintro i m H2 ⟨rfl, hi, F2, env2, accd, acc, s2, r2, hD2, ha, hF2, ⟨far2, nt2⟩, hl, e2⟩
        by_cases hlt : i < ds.length
        · refine .inr ⟨w.go i H2 (s2.trans r2.sub) hlt, fun H' => ∃ F2 env2 accd acc, Same F1 F2 ∧ Rel K φ F2 (wipeE vs env2) (L2.wipe σ vs) H' ∧ H' D = some (.lst acc) ∧ RL K F2 accd acc ∧ F2 D = none ∧ (Far (wipeE vs env2) (L2.wipe σ vs) D ∧ NoTre K φ F2 H' (wipeE vs env2) (L2.wipe σ vs) D) ∧ acc.length ≤ i + 1 ∧ lcL tg t elt vs (ds.drop (i + 1)) accd env2 = some (xs, envN),
            fun H' hN => ⟨ds.length - (i + 1), by omega, rfl, hlt, hN⟩, fun x H' y => ?_⟩
          have r2h := r2.hide hD2 hF2 hn far2 nt2
          obtain ⟨d, F3, ed, s3, r3, h3, sH⟩ := (w.mono s2).item r2h y hlt
          rw [drop_get ed] at e2
          unfold lcL at e2
          split at e2
          · cases e2
          · rename_i env3 ep
            refine ⟨φ.hide D (.lst acc), hφ, F3, wipeE vs env2, d, env3, r3, h3, ep, fun σ3 w3 r4 => ⟨(w3 vs hv).trans (wipe_wipe _ _), ?_⟩⟩
            -- what a turn is to reach
            have back : ∀ {F5 : Hp} {env5 : Env} {H5 : Hp} {acd : List PV.D} {ac : List V}, Same F3 F5 → Rel K (φ.hide D (.lst acc)) F5 env5 σ3 H5 → (H5 D = some (.lst acc) → ∃ H6, H6 = upd H5 D (.lst ac) ∧ RL K F5 acd ac ∧ ac.length ≤ i + 1) → lcL tg t elt vs (ds.drop (i + 1)) acd env5 = some (xs, envN) →
                ∃ F2 env2 accd acc, Same F1 F2 ∧ Rel K φ F2 (wipeE vs env2) (L2.wipe σ vs) (upd H5 D (.lst ac)) ∧ (upd H5 D (.lst ac)) D = some (.lst acc) ∧ RL K F2 accd acc ∧ F2 D = none ∧ (Far (wipeE vs env2) (L2.wipe σ vs) D ∧ NoTre K φ F2 (upd H5 D (.lst ac)) (wipeE vs env2) (L2.wipe σ vs) D) ∧ acc.length ≤ i + 1 ∧ lcL tg t elt vs (ds.drop (i + 1)) accd env2 = some (xs, envN) := by
              intro F5 env5 H5 acd ac s5 r5 hac e5
              obtain ⟨r6, hD6, hF6, far6, nt6⟩ := r5.unhide hn hf hio
              obtain ⟨_, _, ha6, hl6⟩ := hac hD6
              have r7 := (r6.turn (ho' := .lst ac) hD6 hF6 hn far6 nt6).wipe vs
              have n7 := NoTre.wipe (r6.turn (ho' := .lst ac) hD6 hF6 hn far6 nt6) (NoTre.turn r6 nt6 nt6) vs
              have ew : L2.wipe σ3 vs = L2.wipe σ vs := (w3 vs hv).trans (wipe_wipe _ _)
              rw [ew] at r7 n7
              refine ⟨F5, env5, acd, ac, s2.trans (s3.trans s5), r7, upd_same, ha6, hF6, ⟨fun j s ej hs q => ?_, n7⟩, hl6, e5⟩
              rcases wipeE_get ej with rfl | ⟨hj, ej⟩
              · cases hs
              · rw [← ew, wipe_out hj] at q
                exact far6 j s ej hs q
            split at e2
            · cases e2
            · rename_i env4 et
              refine ⟨φ.hide D (.lst acc), hφ, F3, env3, _, _, r4, et, fun F5 H5 s5 r5 => ?_⟩
              have b := back (acd := accd) (ac := acc) s5 r5 (fun _ => ⟨_, rfl, RL.mono (s3.trans s5) _ _ ha, Nat.le_succ_of_le hl⟩) e2
              have hD5 : H5 D = some (.lst acc) := (r5.unhide hn hf hio).2.1
              have eu : upd H5 D (.lst acc) = H5 := by
                funext b; unfold upd; split
                · rename_i z; rw [z, hD5]
                · rfl
              rw [eu] at b
              exact iteF b
            · rename_i env4 et
              refine ⟨φ.hide D (.lst acc), hφ, F3, env3, _, _, r4, et, fun F5 H5 s5 r5 => ?_⟩
              refine iteT ?_
              split at e2
              · cases e2
              · rename_i rv env5 ee
                refine ⟨φ.hide D (.lst acc), hφ, F5, env4, rv, env5, r5, ee, fun F6 H6 v s6 r6 h6 => ?_⟩
                split at e2
                · cases e2
                · rename_i xd env6 ef
                  obtain ⟨F7, s7, r7, h7⟩ := r6.freeze h6 ef
                  have hD7 : H6 D = some (.lst acc) := (r7.unhide hn hf hio).2.1
                  have sz : (sizeLine : Nat) = 16777216 := sizeLine_eq
                  have wl := w.le
                  refine ⟨acc, hD7, by omega, ?_⟩
                  exact back (acd := accd ++ [xd]) (ac := acc ++ [v]) (s5.trans (s6.trans s7)) r7 (fun _ => ⟨_, rfl, RL.append (RL.mono (s3.trans (s5.trans (s6.trans s7))) _ _ ha) (RL.cons h7 RL.nil), by simp; omega⟩) e2
        · have ei : i = ds.length := by omega
          subst ei
          rw [List.drop_length] at e2
          unfold lcL at e2
          cases e2
          have r9 := r1.back s2 hw r2
          refine .inl ⟨w.stop _ H2 (s2.trans r2.sub) (Nat.le_refl _), k F2 H2 _ (s1.trans s2) r9 ⟨D, .lst acc, rfl, hD2, ha, hF2, hn, fun j s ej hs q => ?_, NoTre.back hw r2 nt2⟩⟩
          rcases backE_get ej with ⟨hj, rfl⟩ | ⟨hj, ej⟩
          · rcases wipeable_at hw hj with z | ⟨d, z⟩
            · rw [List.getD_eq_getElem?_getD, z] at hs; cases hs
            · rw [List.getD_eq_getElem?_getD, z] at hs; cases hs
          · exact far2 j s (by rw [wipeE_out hj]; exact ej) hs (by rw [wipe_out hj]; exact q)
    · cases e
end
end PV
end

section
set_option maxRecDepth 100000
namespace PV
open PySem PySem.Spec PyProof.Rows L2
variable [CodeTabs]

section
variable {X : Cx} {Γ : Hp → Option Ea → Prop} {e : Expr}
theorem EX.any {f : E} (h : EX X Γ e f) : PE X e (fun σ H Q => ∃ φ : Act, Γ φ.F φ.ea ∧ rE X.K φ f σ H Q) := ⟨fun pins s σ H Q I ⟨φ, hφ, q⟩ => (h.at' φ hφ).run pins s σ H Q I q⟩
theorem TX.any {f : T} (h : TX X Γ e f) : PT X e (fun σ H Q => ∃ φ : Act, Γ φ.F φ.ea ∧ rT X.K φ f σ H Q) := ⟨fun pins s σ H Q I ⟨φ, hφ, q⟩ => (h.at' φ hφ).run pins s σ H Q I q⟩
theorem GX.any {f : Tg} (h : GX X Γ e f) : PG X e (fun v σ H Q => ∃ φ : Act, Γ φ.F φ.ea ∧ rG X.K φ f v σ H Q) := ⟨fun pins s σ H v u Q I r ⟨φ, hφ, q⟩ => (h.at' φ hφ).run pins s σ H v u Q I r q⟩
/-- a comprehension's tests -/
inductive TsX (X : Cx) (Γ : Hp → Option Ea → Prop) : List Expr → T → Prop
  | nil : TsX X Γ [] tTrue
  | one {c : Expr} {t : T} : TX X Γ c t → TsX X Γ [c] t
theorem TsX.any {es : List Expr} {t : T} (h : TsX X Γ es t) : PTs X es (fun σ H Q => ∃ φ : Act, Γ φ.F φ.ea ∧ rT X.K φ t σ H Q) := by
  cases h with
  | one h => exact pts_one h.any
  | nil =>
    refine ⟨fun pins s σ H Q I ⟨φ, hφ, F, env, b, env', r0, e, k⟩ => ?_⟩
    cases e
    exact pts_nil.run pins s σ H Q I (k F H (.refl _) r0)
end
section
variable {X : Cx} {Γ : Hp → Option Ea → Prop} {cm : CM} {W : WX} {elt tg iter : Expr} {ifs : List Expr} {scope : Scope} {own : List (Str × Nat)} {pos spos : Pos} {it : I} {g : Tg} {t : T} {f : E} {st : Stmt} {body : List Stmt} {sb : S}
theorem ex_lc (own : List (Str × Nat)) (hc : X.calm = true) (hN : X.N.Nodup) (hi : IX X Γ tg iter it) (ok : BlkOk X.N X.env.scope scope own)
    (hg : ∀ (s : Shared) (H : Hp) (C : Addr) (cl : List (Str × Addr)) (fp : List Addr), GX (X.blk s H scope (compEnvC scope cl C X.env) fp) Γ tg g) (ht : ∀ (s : Shared) (H : Hp) (C : Addr) (cl : List (Str × Addr)) (fp : List Addr), TsX (X.blk s H scope (compEnvC scope cl C X.env) fp) Γ ifs t)
    (he : ∀ (s : Shared) (H : Hp) (C : Addr) (cl : List (Str × Addr)) (fp : List Addr), EX (X.blk s H scope (compEnvC scope cl C X.env) fp) Γ elt f) (hv : ∀ i ∈ g.names, i ∈ own.map (·.2)) (hs : ∀ x, foldedSetIterable iter X.env x = pure x := by intro _; rfl) :
    EX X Γ (.ListComp elt [⟨tg, iter, ifs, 0⟩] scope pos) (eLc it g t f (own.map (·.2))) :=
  ⟨fun φ hφ => PE.weak (pe_lc hc hN (hi.at' φ hφ) ok (fun s H C cl fp => (hg s H C cl fp).any) (fun s H C cl fp => (ht s H C cl fp).any) (fun s H C cl fp => (he s H C cl fp).any) hs) fun σ H Q h => rE_lc hφ hv h⟩
theorem sx_setLc (own : List (Str × Nat)) {i : Nat} {y : Str} {py : Pos} (hc : X.calm = true) (hN : X.N.Nodup) (hy : X.N[i]? = some y) (hyl : X.env.scope.names.lookup y = some .local)
    (hsw : swapsWith (.ListComp elt [⟨tg, iter, ifs, 0⟩] scope pos) (some (.Name y py)) spos.line X.env = pure true) (hi : IX X Γ tg iter it) (ok : BlkOk X.N X.env.scope scope own)
    (hg : ∀ (s : Shared) (H : Hp) (C : Addr) (cl : List (Str × Addr)) (fp : List Addr), GX (X.blk s H scope (compEnvC scope cl C X.env) fp) Γ tg g) (ht : ∀ (s : Shared) (H : Hp) (C : Addr) (cl : List (Str × Addr)) (fp : List Addr), TsX (X.blk s H scope (compEnvC scope cl C X.env) fp) Γ ifs t)
    (he : ∀ (s : Shared) (H : Hp) (C : Addr) (cl : List (Str × Addr)) (fp : List Addr), EX (X.blk s H scope (compEnvC scope cl C X.env) fp) Γ elt f) (hv : ∀ i ∈ g.names, i ∈ own.map (·.2)) (hs : ∀ x, foldedSetIterable iter X.env x = pure x := by intro _; rfl) :
    SX X Γ cm W (.Assign [.Name y py] (.ListComp elt [⟨tg, iter, ifs, 0⟩] scope pos) spos) (sSet i (eLc it g t f (own.map (·.2)))) :=
  ⟨fun φ hφ => PS.weak (ps_setLc hc hN hy hyl hsw (hi.at' φ hφ) ok (fun s H C cl fp => (hg s H C cl fp).any) (fun s H C cl fp => (ht s H C cl fp).any) (fun s H C cl fp => (he s H C cl fp).any) hs) fun D σ H h =>
    rE_lc hφ hv (rS_set h)⟩
theorem sx_for (hp : PassesOwn (model X.prog X.w) X.A X.env X.xe) (hc : X.calm = true) (hi : IX X Γ tg iter it) (hg : GX X Γ tg g) (hb : SsX X Γ cm W body sb)
    (hs : ∀ x, foldedSetIterable iter X.env x = pure x := by intro _; rfl) : SX X Γ cm W (.For tg iter body [] pos) (sFor it g sb) :=
  ⟨fun φ hφ => PS.weak (ps_for hp hc (hi.at' φ hφ) (hg.at' φ hφ) (hb.at' φ hφ) hs) fun D σ H h => rS_for h⟩
theorem sx_while (n : Nat) {c : Expr} (hp : PassesOwn (model X.prog X.w) X.A X.env X.xe) (hc : TX X Γ c t) (hb : SsX X Γ cm W body sb) : SX X Γ cm W (.While c body [] pos) (whileL t sb n) :=
  ⟨fun φ hφ => PS.weak (ps_while hp (hc.at' φ hφ) (hb.at' φ hφ)) fun D σ H h => rS_while h⟩
end

/-! ### objects that change -/
section
variable {K : PySem.W.Frag} {cm : CM} {φ : Act} {W : WX} {F H : Hp} {env env' : Env} {σ : St} {o ix val : E}
theorem heldAt_shape {ro : RV} {j : Nat} {c : D} (h : heldAt env ro = some (j, c)) : ro = .bor j ∧ (env[j]? = some (.own c) ∨ ∃ k, env[j]? = some (.io k c)) := by
  unfold heldAt at h
  split at h
  · split at h
    · rename_i e; cases h; exact ⟨rfl, .inl e⟩
    · rename_i e; cases h; exact ⟨rfl, .inr ⟨_, e⟩⟩
    · cases h
  · cases h
/-- where it stands -/
theorem Rel.at (r : Rel K φ F env σ H) {ro : RV} {j : Nat} {c : D} {v : V} (h : heldAt env ro = some (j, c)) (g : ro = .bor j → σ[j]? = some (some v)) : ∃ a ho, v = .ref a ∧ H a = some ho ∧ ObjR K F ho c ∧ σ[j]? = some (some (.ref a)) := by
  obtain ⟨rfl, q⟩ := heldAt_shape h
  have g := g rfl
  rcases q with q | ⟨k, q⟩
  · have s := r.slot j _ q
    rw [g] at s
    cases s with
    | own h1 h2 h3 h4 => exact ⟨_, _, rfl, h1, h2, g⟩
  · have s := r.slot j _ q
    rw [g] at s
    cases s with
    | io h1 h2 h3 h4 => exact ⟨_, _, rfl, h2, h3, g⟩
theorem Rel.upd (r : Rel K φ F env σ H) {j : Nat} {c' : D} {a : Addr} {ho ho' : HO} (e : upSlot j c' env = some env') (hσ : σ[j]? = some (some (.ref a))) (ha : H a = some ho) (o : ObjR K F ho' c') : Rel K φ F env' σ (L2.upd H a ho') := by
  -- the slot
  have key : ∀ (s s' : Slot), env[j]? = some s → s.held = true → env' = env.set j s' → s'.held = true → F a = none → (∀ b o, φ.H b = some o → b ∉ φ.io → b ≠ a) → (SlotOk K φ F (L2.upd H a ho') s' (some (some (.ref a)))) → Rel K φ F env' σ (L2.upd H a ho') := by
    intro s s' es hs e' hs' hF hpre hok
    subst e'
    have hj : j < env.length := (List.getElem?_eq_some_iff.mp es).1
    have hob : ∃ d, ObjR K F ho d := by
      have q := r.slot j s es
      rw [hσ] at q
      cases q with
      | un => cases hs
      | fz h => cases hs
      | own h1 h2 h3 h4 => rw [ha] at h1; cases h1; exact ⟨_, h2⟩
      | io h1 h2 h3 h4 => rw [ha] at h2; cases h2; exact ⟨_, h3⟩
      | ex h1 h2 h3 => cases hs
      | tre => cases hs
    obtain ⟨dd, hob⟩ := hob
    have farT : ∀ (i : Nat) (d : D) (v : V) (fp : List Addr), env[i]? = some (.tre d) → σ[i]? = some (some v) → TreV K φ F H d v fp → a ∉ fp := fun i d v fp ei hv ht => by
      obtain ⟨v2, fp2, g1, g2, g3, _⟩ := r.tre i d ei
      rw [hv] at g1; cases g1
      rw [ht.unique g2]
      exact g3 j s a es hs hσ
    refine ⟨PV.Same.upd_r hF r.sub, r.old, fun b o e1 e2 e3 => ?_, r.new, fun i t e => ?_, fun i k t u b hik ei ek ht hu h1 h2 => ?_, by rw [List.length_set]; exact r.len, fun b hb => ?_, fun b ps e => ?_, tabs_write r.tab ha hob.ntbl hob.next, r.ntb,
      r.tre.move (.refl _) (fun i d e => ?_) (fun i d v fp b e hv ht hb => ⟨(ht.mem hb).1, by rw [upd_ne fun q => farT i d v fp e hv ht (by rw [← q]; exact hb)], (ht.mem hb).2.1⟩) fun i d v fp k u b _ _ _ ek hu hk _ => ?_, r.ioA⟩
    · rw [upd_ne (hpre b o e1 e2)]; exact r.pres b o e1 e2 e3
    · rcases getElem?_setE e with ⟨rfl, rfl⟩ | ⟨ne, e⟩
      · rw [hσ]; exact hok
      · have h := r.slot i t e
        generalize hi : σ[i]? = oi at h
        have far : ∀ b, t.held = true → oi = some (some (.ref b)) → b ≠ a := fun b hb hbo q => by
          subst q; exact r.dist j i s t _ ne es e hs hb hσ (hi.trans hbo)
        cases h with
        | un => exact .un
        | fz h => exact .fz h
        | own h1 h2 h3 h4 => exact .own (by rw [upd_ne (far _ rfl rfl)]; exact h1) h2 h3 h4
        | io h1 h2 h3 h4 => exact .io h1 (by rw [upd_ne (far _ rfl rfl)]; exact h2) h3 h4
        | ex h1 h2 h3 => exact .ex h1 h2 h3
        | tre => exact .tre
    · rcases getElem?_setE ei with ⟨rfl, rfl⟩ | ⟨ni, ei2⟩
      · rcases getElem?_setE ek with ⟨rfl, rfl⟩ | ⟨nk, ek2⟩
        · exact hik rfl
        · exact r.dist _ k s u b hik es ek2 hs hu h1 h2
      · rcases getElem?_setE ek with ⟨rfl, rfl⟩ | ⟨nk, ek2⟩
        · exact r.dist i _ t s b hik ei2 es ht hs h1 h2
        · exact r.dist i k t u b hik ei2 ek2 ht hu h1 h2
    · obtain ⟨o2, q⟩ := r.ioH b hb
      by_cases z : b = a
      · subst z; exact ⟨ho', upd_same⟩
      · exact ⟨o2, by rw [upd_ne z]; exact q⟩
    · obtain ⟨qs, q⟩ := r.presT b ps e
      exact ⟨qs, by rw [upd_ne fun z => by subst z; rw [ha] at q; exact hob.ntbl qs (Option.some.inj q)]; exact q⟩
    · rcases getElem?_setE e with ⟨rfl, q⟩ | ⟨_, e⟩
      · subst q; cases hs'
      · exact ⟨e, rfl⟩
    · rcases getElem?_setE ek with ⟨rfl, rfl⟩ | ⟨_, ek⟩
      · exact ⟨s, es, hs, hk⟩
      · exact ⟨u, ek, hu, hk⟩
  unfold upSlot at e
  split at e
  · rename_i d es
    have s := r.slot j _ es
    rw [hσ] at s
    cases s with
    | own h1 h2 h3 h4 =>
      cases e
      exact key _ (.own c') es rfl rfl rfl h3 (fun b o e1 _ q => by subst q; rw [h4] at e1; cases e1) (.own upd_same o h3 h4)
  · rename_i k d es
    have s := r.slot j _ es
    rw [hσ] at s
    cases s with
    | io h1 h2 h3 h4 =>
      cases e
      exact key _ (.io k c') es rfl rfl rfl h4 (fun b o e1 e2 q => by subst q; exact e2 (List.mem_of_getElem? h1)) (.io h1 upd_same o h4)
  · cases e

def SetD (K : PySem.W.Frag) (t : TSet) (fs : D → D → D → Option D) : Prop :=
  ∀ (F H : Hp) (p : Addr) (ho : HO) (c k x c' : D) (y v : V) (Q : Hp → Prop), Same F H → H p = some ho → ObjR K F ho c → PVal K F H k y → R K F x v → fs c k x = some c' → (∀ ho', ObjR K F ho' c' → Q (L2.upd H p ho')) → t (.ref p) y v H Q
def GetD (K : PySem.W.Frag) (t : V → V → Hp → VK → Prop) (fg : D → D → Option D) : Prop :=
  ∀ (F H : Hp) (p : Addr) (ho : HO) (c k x : D) (y : V) (Q : VK), Same F H → H p = some ho → ObjR K F ho c → PVal K F H k y → fg c k = some x → (∀ v, R K F x v → Q v H) → t (.ref p) y H Q
def IpD (K : PySem.W.Frag) (t : TIp) (fo : D → D → Option D) : Prop :=
  ∀ (F H : Hp) (x y z : D) (v w : V) (Q : VK), Same F H → R K F x v → PVal K F H y w → fo x y = some z → (∀ u, R K F z u → Q u H) → t v w H Q
def MutD (K : PySem.W.Frag) (r : V → List V → Hp → VK → Prop) (fm : D → List D → Option (D × RV)) : Prop :=
  ∀ (F H : Hp) (p : Addr) (ho : HO) (c c' : D) (ds : List D) (res : RV) (vs : List V) (Q : VK), Same F H → H p = some ho → ObjR K F ho c → RL K F ds vs → fm c ds = some (c', res) →
    (∃ d, res = .fz d ∧ ((∀ ho' v, ObjR K F ho' c' → R K F d v → Q v (L2.upd H p ho')) → r (.ref p) vs H Q))
def MethD (K : PySem.W.Frag) (r : V → List V → Hp → VK → Prop) (fm : D → List D → Option RV) : Prop :=
  ∀ (F H : Hp) (x : V) (xs : List V) (c : D) (cs : List D) (res : RV) (Q : VK), Same F H → PVal K F H c x → PVals K F H cs xs → fm c cs = some res → (∀ i, res ≠ .bor i) ∧ (ResQ K F H res Q → r x xs H Q)
def TyD (K : PySem.W.Frag) (T : String) (ty : D → Bool) : Prop := ∀ (F H : Hp) (x : V) (c : D), Same F H → PVal K F H c x → ty c = true → tyV K T x H
theorem ty_list {K : PySem.W.Frag} : TyD K "list" isL := fun F H x c s h e => by
  cases c with
  | lst ds => obtain ⟨a, vs, rfl, h1, _⟩ := h.lst s; exact .inl ⟨rfl, vs, SqL.of h1⟩
  | _ => cases e
theorem ty_str {K : PySem.W.Frag} : TyD K "str" isS := fun F H x c s h e => by
  cases c with
  | str ds => rw [h.str.1]; rfl
  | _ => cases e

theorem rS_setIx {t : TSet} {fs : D → D → D → Option D} {D : Ends} (hf : SetD K t fs) (h : rS K cm φ W (sSetIx fs o ix val) D σ H) : tAsg (rE K φ val) (gSub (rE K φ o) (rE K φ ix) t) D σ H := by
  obtain ⟨F, env, o', r0, e, k⟩ := h
  unfold sSetIx at e
  split at e
  · cases e
  · rename_i rv env1 ev
    refine ⟨F, env, rv, env1, r0, ev, fun F1 H1 v s1 r1 h1 => ?_⟩
    split at e
    · cases e
    · rename_i x env2 ef
      obtain ⟨F2, s2, r2, h2⟩ := r1.freeze h1 ef
      split at e
      · cases e
      · rename_i ro env3 eo
        refine ⟨F2, env2, ro, env3, r2, eo, fun F3 H3 vo s3 r3 h3 => ?_⟩
        split at e
        · cases e
        · rename_i ri env4 ei
          obtain ⟨F3', s3', r3', h3'⟩ := r3.settle h3
          refine ⟨F3', env3, ri, env4, r3', ei, fun F4 H4 vi s4 r4 h4 => ?_⟩
          split at e
          · rename_i j c kk eh ep
            split at e
            · cases e
            · rename_i c' es
              split at e
              · cases e
              · rename_i env5 eu
                cases e
                obtain ⟨a, ho, rfl, ha, hc, hσ⟩ := r4.at (v := vo) eh (fun q => by subst q; exact h3)
                exact hf F4 H4 a ho c kk x c' vi v _ r4.sub ha hc (r4.peek h4 ep) (R.mono (s3.trans (s3'.trans s4)) _ _ h2) es fun ho' q =>
                  k F4 σ _ (s1.trans (s2.trans (s3.trans (s3'.trans s4)))) (r4.upd eu hσ ha q)
          · cases e
theorem rS_augIx {tg : V → V → Hp → VK → Prop} {ti : TIp} {t : TSet} {fg : D → D → Option D} {fo : D → D → Option D} {fs : D → D → D → Option D} {D : Ends} (hg : GetD K tg fg) (hi : IpD K ti fo) (hf : SetD K t fs)
    (h : rS K cm φ W (sAugIx fg fo fs o ix val) D σ H) : tAugS (rE K φ o) (rE K φ ix) (rE K φ val) tg ti t D σ H := by
  obtain ⟨F, env, o', r0, e, k⟩ := h
  unfold sAugIx at e
  split at e
  · cases e
  · rename_i ro env1 eo
    refine ⟨F, env, ro, env1, r0, eo, fun F1 H1 vo s1 r1 h1 => ?_⟩
    split at e
    · cases e
    · rename_i ri env2 ei
      obtain ⟨F1', s1', r1', h1'⟩ := r1.settle h1
      refine ⟨F1', env1, ri, env2, r1', ei, fun F2 H2 vi s2 r2 h2 => ?_⟩
      obtain ⟨F2', s2', r2', h2'⟩ := r2.settle h2
      split at e
      · rename_i j c kk eh ep
        split at e
        · cases e
        · rename_i x eg
          obtain ⟨a, ho, rfl, ha, hc, hσ⟩ := r2.at (v := vo) eh (fun q => by subst q; exact h1)
          refine hg F2' H2 a ho c kk x vi _ r2'.sub ha (hc.mono s2') ((r2.peek h2 ep).mono s2') eg fun vx hx => ?_
          split at e
          · cases e
          · rename_i re env3 ee
            refine ⟨F2', env2, re, env3, r2', ee, fun F3 H3 vy s3 r3 h3 => ?_⟩
            split at e
            · cases e
            · rename_i y epy
              split at e
              · cases e
              · rename_i z ez
                obtain ⟨F3', s3', r3', h3'⟩ := r3.settle h3
                refine hi F3 H3 x y z vx vy _ r3.sub (R.mono s3 _ _ hx) (r3.peek h3 epy) ez fun vz hz => ?_
                split at e
                · rename_i j2 c2 k2 eh2 ep2
                  split at e
                  · cases e
                  · rename_i c3 es
                    split at e
                    · cases e
                    · rename_i env4 eu
                      cases e
                      obtain ⟨a2, ho2, ea, ha2, hc2, hσ2⟩ := r3.at (v := .ref a) eh2 (fun q => by subst q; exact h1)
                      cases ea
                      have hk : PVal K F3 H3 k2 vi := by
                        cases ri with
                        | fz dd => exact r3.peek (q := .fz dd) (R.mono s3 _ _ h2') ep2
                        | own dd => exact r3.peek (q := .fz dd) (R.mono s3 _ _ h2') ep2
                        | bor i => exact r3.peek (q := .bor i) h2' ep2
                        | tre dd => cases ep
                      exact hf F3 H3 a ho2 c2 k2 z c3 vi vz _ r3.sub ha2 hc2 hk hz es fun ho' q =>
                        k F3 σ _ (s1.trans (s1'.trans (s2.trans (s2'.trans s3)))) (r3.upd eu hσ2 ha2 q)
                · cases e
      · cases e
theorem rE_mut {T : String} {ty : D → Bool} {r : V → List V → Hp → VK → Prop} {fm : D → List D → Option (D × RV)} {es : EL} {Q : VK} (hf : MutD K r fm) (hty : TyD K T ty)
    (h : rE K φ (eMut ty fm o es) σ H Q) : tBM K T r (rE K φ o) (rA K φ es) σ H Q := by
  obtain ⟨F, env, q, env', r0, e, k⟩ := h
  unfold eMut at e
  split at e
  · cases e
  · rename_i ro env1 eo
    refine ⟨F, env, ro, env1, r0, eo, fun F1 H1 vo s1 r1 h1 => ?_⟩
    split at e
    · cases e
    · rename_i j0 c0 eh0
      split at e
      · rename_i et
        obtain ⟨a, ho, rfl, ha, hc, hσ⟩ := r1.at (v := vo) eh0 (fun q => by subst q; exact h1)
        refine ⟨hty F1 H1 _ c0 r1.sub (.inr ⟨a, ho, rfl, ha, hc⟩) et, ?_⟩
        split at e
        · cases e
        · rename_i rs env2 ea
          refine ⟨F1, env1, rs, env2, r1, ea, fun F2 H2 vs s2 r2 h2 => ?_⟩
          split at e
          · cases e
          · rename_i ds env3 ef
            obtain ⟨F3, s3, r3, h3⟩ := r2.freezeAll h2 ef
            split at e
            · cases e
            · rename_i j c eh
              split at e
              · cases e
              · rename_i c' res em
                split at e
                · cases e
                · rename_i env4 eu
                  cases e
                  obtain ⟨a2, ho2, ea2, ha2, hc2, hσ2⟩ := r3.at (v := .ref a) eh (fun q => by subst q; exact h1)
                  cases ea2
                  obtain ⟨d, rfl, go⟩ := hf F3 H2 a ho2 c c' ds _ vs Q r3.sub ha2 hc2 h3 em
                  exact go fun ho' v q hd => k F3 _ v (s1.trans (s2.trans s3)) (r3.upd eu hσ2 ha2 q) hd
      · cases e
theorem rE_meth {T : String} {ty : D → Bool} {r : V → List V → Hp → VK → Prop} {fm : D → List D → Option RV} {es : EL} {Q : VK} (hf : MethD K r fm) (hty : TyD K T ty)
    (h : rE K φ (eMeth ty fm o es) σ H Q) : tBM K T r (rE K φ o) (rA K φ es) σ H Q := by
  obtain ⟨F, env, q, env', r0, e, k⟩ := h
  unfold eMeth at e
  split at e
  · cases e
  · rename_i ro env1 eo
    refine ⟨F, env, ro, env1, r0, eo, fun F1 H1 vo s1 r1 h1 => ?_⟩
    obtain ⟨F1', s1', r1', h1'⟩ := r1.settle h1
    split at e
    · cases e
    · rename_i c0 ec0
      split at e
      · rename_i et
        refine ⟨hty F1' H1 _ c0 r1'.sub ((r1.peek h1 ec0).mono s1') et, ?_⟩
        split at e
        · cases e
        · rename_i rs env2 ea
          refine ⟨F1', env1, rs, env2, r1', ea, fun F2 H2 vs s2 r2 h2 => ?_⟩
          split at e
          · rename_i c ds ec ed
            split at e
            · cases e
            · rename_i res em
              cases e
              have hx : PVal K F2 H2 c vo := by
                cases ro with
                | fz dd => exact r2.peek (q := .fz dd) (R.mono s2 _ _ h1') ec
                | own dd => exact r2.peek (q := .fz dd) (R.mono s2 _ _ h1') ec
                | bor i => exact r2.peek (q := .bor i) h1' ec
                | tre dd => cases ec0
              obtain ⟨nb, go⟩ := hf F2 H2 vo vs c ds _ Q r2.sub hx (r2.peekAll h2 ed) em
              exact go (resQ r2 nb fun F3 H3 v s3 r3 h3 => k F3 H3 v (s1.trans (s1'.trans (s2.trans s3))) r3 h3)
          · cases e
      · cases e
/-- the same of a method without arguments -/
theorem rE_mut0 {T : String} {ty : D → Bool} {r : V → List V → Hp → VK → Prop} {fm : D → List D → Option (D × RV)} {Q : VK} (hf : MutD K r fm) (hty : TyD K T ty)
    (h : rE K φ (eMut ty fm o eNil) σ H Q) : tBM0 K T r (rE K φ o) σ H Q := by
  obtain ⟨F, env, q, env', r0, e, k⟩ := rE_mut hf hty h
  exact ⟨F, env, q, env', r0, e, fun F' H' v s' r' h' => ⟨(k F' H' v s' r' h').1, rA_nil (k F' H' v s' r' h').2⟩⟩
theorem rE_meth0 {T : String} {ty : D → Bool} {r : V → List V → Hp → VK → Prop} {fm : D → List D → Option RV} {Q : VK} (hf : MethD K r fm) (hty : TyD K T ty)
    (h : rE K φ (eMeth ty fm o eNil) σ H Q) : tBM0 K T r (rE K φ o) σ H Q := by
  obtain ⟨F, env, q, env', r0, e, k⟩ := rE_meth hf hty h
  exact ⟨F, env, q, env', r0, e, fun F' H' v s' r' h' => ⟨(k F' H' v s' r' h').1, rA_nil (k F' H' v s' r' h').2⟩⟩
/-- x op= e of a plain name -/
theorem rS_aug {i : Nat} {fo : D → D → Option RV} {r : R2} {D : Ends} (hf : OpD K r fo) (h : rS K cm φ W (sSet i (eBin fo (eVar i) val)) D σ H) : tAug i (rE K φ val) r D σ H := by
  obtain ⟨v, hv, q⟩ := rE_var (rS_set h |> fun h => (rE_bin hf h : tOp r (rE K φ (eVar i)) (rE K φ val) σ H _))
  exact ⟨v, hv, q⟩
end
section
variable {X : Cx} {Γ : Hp → Option Ea → Prop} {cm : CM} {W : WX} {o ix e a : Expr} {fo' fi fe : E} {es : List Expr} {g : EL} {pos tpos apos cpos : Pos}
theorem sx_setIx {t : TSet} {fs : D → D → D → Option D} (hset : PSet X t) (hf : SetD X.K t fs) (he : EX X Γ e fe) (ho : EX X Γ o fo') (hi : EX X Γ ix fi)
    (ha : ∀ v, assign (.Subscript o ix pos) X.env v = (do
      let ov ← holding [v] (eval o X.env)
      let iv ← holding [v, ov] (eval ix X.env)
      standAt pos
      holding [v, ov, iv] (setItem ov iv v)
      release [v, ov, iv] []) := by intro _; rfl)
    (hs : swapsWithSole [.Subscript o ix pos] e tpos.line X.env = pure false := by rfl) (hw : swappedStores [.Subscript o ix pos] e X.env = pure none := by rfl)
    (h1 : (assignEach [.Subscript o ix pos] X.env).map (·.2) = [assign (.Subscript o ix pos) X.env] := by rfl) : SX X Γ cm W (.Assign [.Subscript o ix pos] e tpos) (sSetIx fs fo' fi fe) :=
  ⟨fun φ hφ => PS.weak (ps_asg (he.at' φ hφ) (pg_sub (ho.at' φ hφ) (hi.at' φ hφ) hset ha) hs hw h1) fun D σ H h => rS_setIx hf h⟩
theorem sx_augIx {tg : V → V → Hp → VK → Prop} {ti : TIp} {t : TSet} {op : Operator} {fg : D → D → Option D} {fo : D → D → Option D} {fs : D → D → D → Option D} (hget : PGet X tg) (hip : PIp X op ti) (hset : PSet X t) (hg : GetD X.K tg fg) (hi' : IpD X.K ti fo) (hf : SetD X.K t fs)
    (ho : EX X Γ o fo') (hi : EX X Γ ix fi) (he : EX X Γ e fe) (ha : ∀ ov iv new, augStore ix ov iv new = (do holding [new, ov, iv] (setItem ov iv new); release [new, ov, iv] []; pure .next) := by intros; rfl) :
    SX X Γ cm W (.AugAssign (.Subscript o ix tpos) op e pos) (sAugIx fg fo fs fo' fi fe) :=
  ⟨fun φ hφ => PS.weak (ps_augS (ho.at' φ hφ) (hi.at' φ hφ) hget (he.at' φ hφ) hip hset ha) fun D σ H h => rS_augIx hg hi' hf h⟩
theorem sx_aug {i : Nat} {x : Str} {op : Operator} {r : R2} {fo : D → D → Option RV} (hN : X.N.Nodup) (hi : X.N[i]? = some x) (hx : Loc X.env.scope x) (ho : OpR X (inplaceOp op) r) (hf : OpD X.K r fo) (he : EX X Γ e fe) (hfn : X.fn x = true ∨ X.env.scope.names.lookup x = some .local := by first | exact .inl rfl | exact .inr rfl | assumption) :
    SX X Γ cm W (.AugAssign (.Name x tpos) op e pos) (sSet i (eBin fo (eVar i) fe)) :=
  ⟨fun φ hφ => PS.weak (ps_aug hN hi hx (he.at' φ hφ) (fun pins s σ H x y v u Q I r1 r2 h => ho pins s σ H x y v u Q I r1 r2 h) hfn) fun D σ H h => rS_aug hf h⟩
theorem ex_mut {T id : String} {name : Str} {ty : D → Bool} {r : V → List V → Hp → VK → Prop} {fm : D → List D → Option (D × RV)} (pa : PlainAttrs T) (slot : PySem.Slot T name id) (hty : typeOf (.builtin id) = pure (.type "method_descriptor")) (hm : MtR X id r) (hf : MutD X.K r fm) (tyd : TyD X.K T ty) (ho : EX X Γ o fo') (ha : AX X Γ (a :: es) g)
    (hbase : attributeBase o name X.env (eval o X.env) = eval o X.env := by rfl)
    (hfew : ((backTo cpos (starEach (a :: es) X.env)).all (fun x => !x.1) && (backToKw cpos (keywordEach [] X.env)).all (fun x => x.1.isSome)
      && decide ((a :: es).length + ([] : List Keyword).length + (if ([] : List Keyword).isEmpty then 0 else 1) < 30)) = true := by rfl)
    (hline : (apos.endLine == cpos.line) = true := by rfl) (hs : starEach (a :: es) X.env = (false, eval a X.env) :: starEach es X.env := by rfl) (hplain : (backTo cpos (starEach es X.env)).any (·.1) = false := by rfl) :
    EX X Γ (.Call (.Attribute o name apos) (a :: es) [] cpos) (eMut ty fm fo' g) :=
  ⟨fun φ hφ => PE.weak (pe_bm pa slot hty hm (ho.at' φ hφ) (ha.at' φ hφ) hbase hfew hline hs hplain) fun σ H Q h => rE_mut hf tyd h⟩
theorem ex_mut0 {T id : String} {name : Str} {ty : D → Bool} {r : V → List V → Hp → VK → Prop} {fm : D → List D → Option (D × RV)} (pa : PlainAttrs T) (slot : PySem.Slot T name id) (hty : typeOf (.builtin id) = pure (.type "method_descriptor")) (hm : MtR X id r) (hf : MutD X.K r fm) (tyd : TyD X.K T ty) (ho : EX X Γ o fo')
    (hbase : attributeBase o name X.env (eval o X.env) = eval o X.env := by rfl) (hline : (apos.endLine == cpos.line) = true := by rfl) : EX X Γ (.Call (.Attribute o name apos) [] [] cpos) (eMut ty fm fo' eNil) :=
  ⟨fun φ hφ => PE.weak (pe_bm0 pa slot hty hm (ho.at' φ hφ) hbase hline) fun σ H Q h => rE_mut0 hf tyd h⟩
theorem ex_meth {T id : String} {name : Str} {ty : D → Bool} {r : V → List V → Hp → VK → Prop} {fm : D → List D → Option RV} (pa : PlainAttrs T) (slot : PySem.Slot T name id) (hty : typeOf (.builtin id) = pure (.type "method_descriptor")) (hm : MtR X id r) (hf : MethD X.K r fm) (tyd : TyD X.K T ty) (ho : EX X Γ o fo') (ha : AX X Γ (a :: es) g)
    (hbase : attributeBase o name X.env (eval o X.env) = eval o X.env := by rfl)
    (hfew : ((backTo cpos (starEach (a :: es) X.env)).all (fun x => !x.1) && (backToKw cpos (keywordEach [] X.env)).all (fun x => x.1.isSome)
      && decide ((a :: es).length + ([] : List Keyword).length + (if ([] : List Keyword).isEmpty then 0 else 1) < 30)) = true := by rfl)
    (hline : (apos.endLine == cpos.line) = true := by rfl) (hs : starEach (a :: es) X.env = (false, eval a X.env) :: starEach es X.env := by rfl) (hplain : (backTo cpos (starEach es X.env)).any (·.1) = false := by rfl) :
    EX X Γ (.Call (.Attribute o name apos) (a :: es) [] cpos) (eMeth ty fm fo' g) :=
  ⟨fun φ hφ => PE.weak (pe_bm pa slot hty hm (ho.at' φ hφ) (ha.at' φ hφ) hbase hfew hline hs hplain) fun σ H Q h => rE_meth hf tyd h⟩
theorem ex_meth0 {T id : String} {name : Str} {ty : D → Bool} {r : V → List V → Hp → VK → Prop} {fm : D → List D → Option RV} (pa : PlainAttrs T) (slot : PySem.Slot T name id) (hty : typeOf (.builtin id) = pure (.type "method_descriptor")) (hm : MtR X id r) (hf : MethD X.K r fm) (tyd : TyD X.K T ty) (ho : EX X Γ o fo')
    (hbase : attributeBase o name X.env (eval o X.env) = eval o X.env := by rfl) (hline : (apos.endLine == cpos.line) = true := by rfl) : EX X Γ (.Call (.Attribute o name apos) [] [] cpos) (eMeth ty fm fo' eNil) :=
  ⟨fun φ hφ => PE.weak (pe_bm0 pa slot hty hm (ho.at' φ hφ) hbase hline) fun σ H Q h => rE_meth0 hf tyd h⟩
end
end PV
end

section
set_option maxRecDepth 100000
namespace PV
open PySem PySem.Spec PyProof.Rows L2
variable [CodeTabs]

/-! ### what a def promises -/
inductive ArgsOk (K : PySem.W.Frag) (F H : Hp) : List Arg → List V → List Addr → Prop
  | nil : ArgsOk K F H [] [] []
  | fz {d : D} {v : V} {as : List Arg} {vs : List V} {io : List Addr} : R K F d v → ArgsOk K F H as vs io → ArgsOk K F H (.fz d :: as) (v :: vs) io
  | io {d : D} {a : Addr} {ho : HO} {as : List Arg} {vs : List V} {io : List Addr} : H a = some ho → ObjR K F ho d → F a = none → ArgsOk K F H as vs io → ArgsOk K F H (.io d :: as) (.ref a :: vs) (a :: io)
inductive OutsOk (K : PySem.W.Frag) (F H : Hp) : List Addr → List D → Prop
  | nil : OutsOk K F H [] []
  | cons {a : Addr} {d : D} {ho : HO} {io : List Addr} {ds : List D} : H a = some ho → ObjR K F ho d → F a = none → OutsOk K F H io ds → OutsOk K F H (a :: io) (d :: ds)
structure Post (K : PySem.W.Frag) (F H : Hp) (io : List Addr) (outs : List D) (F' H' : Hp) : Prop where
  old : Same F F'
  sub : Same F' H'
  new : ∀ b o, F' b = some o → F b = some o ∨ H b = none
  pres : ∀ b o, H b = some o → b ∉ io → (∀ ps, o ≠ .tbl ps) → H' b = some o
  outs : OutsOk K F' H' io outs
  presT : ∀ b ps, H b = some (.tbl ps) → ∃ qs, H' b = some (.tbl qs)
  tab : NdefX.TabsN CodeTabs.T H'
  ntb : NoTbl F'
def ResOk (K : PySem.W.Frag) (F' H' H : Hp) : RV → V → Prop
  | .fz d, v => R K F' d v
  | .own d, v => ∃ p ho, v = .ref p ∧ H' p = some ho ∧ ObjR K F' ho d ∧ F' p = none ∧ H p = none
  | .bor _, _ => False
  | .tre d, v => ∃ fp, TreV K ⟨F', H, [], none⟩ F' H' d v fp
def rR (K : PySem.W.Frag) (cm : CM) (F H : Hp) (io : List Addr) (Q : VK) (E : XK) : Res → Prop
  | .ok r outs => ∀ F' H' v, Post K F H io outs F' H' → ResOk K F' H' H r v → Q v H'
  | .exc c ds outs => ∀ F' H' cls d, Post K F H io outs F' H' → ExcOk K F' H' cm c ds cls d → E cls d H'
def spF (K : PySem.W.Frag) (cm : CM) (n : Nat) (G : Fn) : Sp := fun vs H Q E => ∃ F as io res, as.length = n ∧ Same F H ∧ (NdefX.TabsN CodeTabs.T H ∧ NoTbl F) ∧ ArgsOk K F H as vs io ∧ io.Nodup ∧ G as = some res ∧ rR K cm F H io Q E res

section
variable {K : PySem.W.Frag} {F H : Hp}
theorem ArgsOk.len {as : List Arg} {vs : List V} {io : List Addr} (h : ArgsOk K F H as vs io) : as.length = vs.length := by
  induction h with
  | nil => rfl
  | fz _ _ ih => simp [ih]
  | io _ _ _ _ ih => simp [ih]
theorem argSlots_len : ∀ (k : Nat) (as : List Arg), (argSlots k as).length = as.length
  | _, [] => rfl
  | k, .fz d :: as => by simp [argSlots, argSlots_len k as]
  | k, .io d :: as => by simp [argSlots, argSlots_len (k + 1) as]
theorem ArgsOk.slot {φ : Act} {as : List Arg} {vs : List V} {io : List Addr} (h : ArgsOk K F H as vs io) : ∀ (pre : List Addr), φ.io = pre ++ io → ∀ (i : Nat) (s : Slot), (argSlots pre.length as)[i]? = some s → SlotOk K φ F H s (vs[i]?.map some) := by
  induction h with
  | nil => intro pre e i s hs; simp [argSlots] at hs
  | @fz d v as vs io hr _ ih =>
    intro pre e i s hs
    cases i with
    | zero => simp [argSlots] at hs; subst hs; exact .fz hr
    | succ i => simp [argSlots] at hs; simpa using ih pre e i s hs
  | @io d a ho as vs io h1 h2 h3 _ ih =>
    intro pre e i s hs
    cases i with
    | zero =>
      simp [argSlots] at hs; subst hs
      exact .io (by rw [e]; simp) h1 h2 h3
    | succ i =>
      simp [argSlots] at hs
      have q := ih (pre ++ [a]) (by rw [e]; simp) i s (by simpa using hs)
      simpa using q
theorem ArgsOk.ioH {as : List Arg} {vs : List V} {io : List Addr} (h : ArgsOk K F H as vs io) : ∀ a, a ∈ io → ∃ ho, H a = some ho := by
  induction h with
  | nil => intro a h; cases h
  | fz _ _ ih => exact ih
  | io h1 _ _ _ ih =>
    intro a h
    rcases List.mem_cons.mp h with rfl | h
    · exact ⟨_, h1⟩
    · exact ih a h
theorem argSlots_ge : ∀ (as : List Arg) (k i n : Nat) (d : D), (argSlots k as)[i]? = some (.io n d) → k ≤ n
  | [], _, _, _, _, h => by simp [argSlots] at h
  | .fz _ :: as, k, 0, _, _, h => by simp [argSlots] at h
  | .fz _ :: as, k, i + 1, n, d, h => argSlots_ge as k i n d (by simpa [argSlots] using h)
  | .io _ :: as, k, 0, n, d, h => by simp [argSlots] at h; omega
  | .io _ :: as, k, i + 1, n, d, h => by have := argSlots_ge as (k + 1) i n d (by simpa [argSlots] using h); omega
theorem argSlots_lt : ∀ (as : List Arg) (k i j n m : Nat) (d e : D), i < j → (argSlots k as)[i]? = some (.io n d) → (argSlots k as)[j]? = some (.io m e) → n < m
  | [], _, _, _, _, _, _, _, _, h, _ => by simp [argSlots] at h
  | _ :: as, k, _, 0, _, _, _, _, hl, _, _ => by omega
  | .fz _ :: as, k, 0, j + 1, _, _, _, _, _, h, _ => by simp [argSlots] at h
  | .fz _ :: as, k, i + 1, j + 1, n, m, d, e, hl, h, h' => argSlots_lt as k i j n m d e (by omega) (by simpa [argSlots] using h) (by simpa [argSlots] using h')
  | .io _ :: as, k, 0, j + 1, n, m, d, e, _, h, h' => by
    have := argSlots_ge as (k + 1) j m e (by simpa [argSlots] using h')
    simp [argSlots] at h; omega
  | .io _ :: as, k, i + 1, j + 1, n, m, d, e, hl, h, h' => argSlots_lt as (k + 1) i j n m d e (by omega) (by simpa [argSlots] using h) (by simpa [argSlots] using h')
theorem argSlots_held : ∀ (as : List Arg) (k i : Nat) (s : Slot), (argSlots k as)[i]? = some s → s.held = true → ∃ n d, s = .io n d
  | [], _, _, _, h, _ => by simp [argSlots] at h
  | .fz _ :: as, k, 0, s, h, hs => by simp [argSlots] at h; subst h; cases hs
  | .fz _ :: as, k, i + 1, s, h, hs => argSlots_held as k i s (by simpa [argSlots] using h) hs
  | .io d :: as, k, 0, s, h, _ => by simp [argSlots] at h; exact ⟨k, d, h.symm⟩
  | .io _ :: as, k, i + 1, s, h, hs => argSlots_held as (k + 1) i s (by simpa [argSlots] using h) hs
theorem argSlots_noT : ∀ (as : List Arg) (k i : Nat) (d : D), (argSlots k as)[i]? ≠ some (.tre d)
  | [], _, _, _, h => by simp [argSlots] at h
  | .fz _ :: as, k, 0, d, h => by simp [argSlots] at h
  | .fz _ :: as, k, i + 1, d, h => argSlots_noT as k i d (by simpa [argSlots] using h)
  | .io _ :: as, k, 0, d, h => by simp [argSlots] at h
  | .io _ :: as, k, i + 1, d, h => argSlots_noT as (k + 1) i d (by simpa [argSlots] using h)
theorem startRel {as : List Arg} {vs : List V} {io : List Addr} {N : List Str} (s : Same F H) (tb : NdefX.TabsN CodeTabs.T H ∧ NoTbl F) (h : ArgsOk K F H as vs io) (nd : io.Nodup) (hN : as.length ≤ N.length) :
    Rel K ⟨F, H, io, none⟩ F (argSlots 0 as ++ List.replicate (N.length - as.length) .un) (L2.start N vs) H := by
  have hl := h.len
  have hsl := argSlots_len 0 as
  have slotAt : ∀ {i : Nat} {s : Slot}, (argSlots 0 as ++ List.replicate (N.length - as.length) Slot.un)[i]? = some s → (i < as.length ∧ (argSlots 0 as)[i]? = some s) ∨ s = .un := by
    intro i s e
    by_cases hi : i < (argSlots 0 as).length
    · rw [List.getElem?_append_left hi] at e
      exact .inl ⟨by omega, e⟩
    · rw [List.getElem?_append_right (by omega), List.getElem?_replicate] at e
      split at e
      · cases e; exact .inr rfl
      · cases e
  have stAt : ∀ {i : Nat}, i < as.length → (L2.start N vs)[i]? = vs[i]?.map some := by
    intro i hi
    unfold L2.start
    rw [List.getElem?_append_left (by simp; omega), List.getElem?_map]
  refine ⟨s, .refl _, fun b o e _ _ => e, fun b o e => .inl e, fun i t e => ?_, fun i j t u a hij ei ej ht hu h1 h2 => ?_, ?_, h.ioH, fun b ps e => ⟨ps, e⟩, tb.1, tb.2, fun i d e => ?_, h.ioH⟩
  · rcases slotAt e with ⟨hi, e⟩ | rfl
    · rw [stAt hi]
      exact h.slot (φ := ⟨F, H, io, none⟩) [] rfl i t e
    · exact .un
  · rcases slotAt ei with ⟨hi, ei⟩ | rfl
    · rcases slotAt ej with ⟨hj, ej⟩ | rfl
      · obtain ⟨n, d, rfl⟩ := argSlots_held _ _ _ _ ei ht
        obtain ⟨m, e, rfl⟩ := argSlots_held _ _ _ _ ej hu
        have q1 := h.slot (φ := ⟨F, H, io, none⟩) [] rfl i _ ei
        have q2 := h.slot (φ := ⟨F, H, io, none⟩) [] rfl j _ ej
        rw [← stAt hi, h1] at q1
        rw [← stAt hj, h2] at q2
        have k1 : io[n]? = some a := by cases q1 with | io z _ _ _ => exact z
        have k2 : io[m]? = some a := by cases q2 with | io z _ _ _ => exact z
        have en : n = m := nd_ix nd k1 k2
        rcases Nat.lt_or_gt_of_ne hij with z | z
        · have := argSlots_lt _ _ _ _ _ _ _ _ z ei ej; omega
        · have := argSlots_lt _ _ _ _ _ _ _ _ z ej ei; omega
      · cases hu
    · cases ht
  · unfold L2.start
    simp only [List.length_append, List.length_replicate, List.length_map, hsl]
    omega
  · rcases slotAt e with ⟨hi, e⟩ | q
    · exact absurd e (argSlots_noT as 0 i d)
    · cases q
theorem outs_ok {φ : Act} {F' H' : Hp} {env : Env} {σ : St} (r : Rel K φ F' env σ H') : ∀ (as : List Arg) (pre : List Addr) (io : List Addr) (vs : List V) (env2 : Env) (m : Nat), ArgsOk K F H as vs io → φ.io = pre ++ io → (∀ (i : Nat), env2[i]? = env[m + i]?) →
    ∀ {outs : List D}, outsOf pre.length as env2 = some outs → OutsOk K F' H' io outs
  | [], pre, io, vs, env2, m, h, e, he, outs, ho => by
    cases h
    unfold outsOf at ho
    cases ho
    exact .nil
  | .fz d :: as, pre, io, vs, [], m, h, e, he, outs, ho => by unfold outsOf at ho; cases ho
  | .fz d :: as, pre, io, vs, x :: env2, m, h, e, he, outs, ho => by
    cases h with
    | fz _ h =>
      unfold outsOf at ho
      exact outs_ok r as pre io _ env2 (m + 1) h e (fun i => by have := he (i + 1); simp at this; rw [this]; congr 1; omega) ho
  | .io d :: as, pre, io, vs, [], m, h, e, he, outs, ho => by unfold outsOf at ho; cases ho
  | .io d :: as, pre, io, vs, x :: env2, m, h, e, he, outs, ho => by
    cases h with
    | @io _ a ho' _ vs' io' h1 h2 h3 h =>
      cases x with
      | io j d' =>
        unfold outsOf at ho
        split at ho
        · rename_i ej
          split at ho
          · cases ho
          · rename_i ds eds
            cases ho
            have hx : env[m]? = some (.io j d') := by have := he 0; simpa using this.symm
            have q := r.slot m _ hx
            generalize hσ : σ[m]? = oσ at q
            cases q with
            | io z1 z2 z3 z4 =>
              rw [ej, e] at z1
              simp at z1
              subst z1
              exact .cons z2 z3 z4 (outs_ok r as (pre ++ [a]) io' _ env2 (m + 1) h (by rw [e]; simp) (fun i => by have := he (i + 1); simp at this; rw [this]; congr 1; omega) (by simpa using eds))
        · cases ho
      | un => unfold outsOf at ho; cases ho
      | fz _ => unfold outsOf at ho; cases ho
      | own _ => unfold outsOf at ho; cases ho
      | ex _ _ => unfold outsOf at ho; cases ho
      | tre _ => unfold outsOf at ho; cases ho
end

section
variable {P : Program} {w : World} {K : PySem.W.Frag} {mg : Str → Option Value} {base : Heap}
theorem fn_ok {x qual : Str} {st : Stmt} {f : Addr} {fd : FuncData} {N ps : List Str} {k : Nat} {cm : CM} {body : S} (Fn : Fun K x qual st f fd) (S : FnScope N ps (defScope st))
    (hbody : ∀ (cdv : Value) (A : Around) (outer : List PySem.Env) (s : Shared) (H : Hp) (E : XK), Room k (A.deeper (envOfC qual (defScope st) s.heap.objs.size f cdv)) →
      SsX (cxOf (L2.CX P w) P w K mg base N qual (defScope st) f cdv A outer s H E) (fun _ _ => True) cm (fun cls d _ H => E cls d H) (defBody st) body) :
    FnOk P w K mg base (L2.CX P w) (k + 1) f fd ps (spF K cm ps.length (fnOf N.length body)) := by
  refine Fun.okX Fn S (fun vs H Q E h => ?_) (fun cdv A outer s H vs Q E hr h => ?_)
  · obtain ⟨F, as, io, res, hn, _, _, ha, _⟩ := h
    rw [← ha.len, hn]
  · obtain ⟨F, as, io, res, hn, sF, tb, ha, nd, hG, hq⟩ := h
    have hpl : as.length ≤ N.length := by
      have := congrArg List.length S.pre
      rw [List.length_take] at this
      omega
    have r0 := startRel (N := N) sF tb ha nd hpl
    refine ⟨_, (hbody cdv A outer s H E hr).at' ⟨F, H, io, none⟩ trivial, F, argSlots 0 as ++ List.replicate (N.length - as.length) .un, ?_⟩
    unfold fnOf at hG
    have post : ∀ {F' H' : Hp} {env' : Env} {σ' : St} {outs : List D}, Rel K ⟨F, H, io, none⟩ F' env' σ' H' → outsOf 0 as env' = some outs → Post K F H io outs F' H' := fun {F' H' env' σ' outs} r e =>
      ⟨r.old, r.sub, r.new, r.pres, outs_ok r as [] io vs env' 0 ha rfl (fun i => by simp) e, r.presT, r.tab, r.ntb⟩
    split at hG
    · rename_i env' eb
      split at hG
      · cases hG
      · rename_i outs eo
        cases hG
        exact ⟨_, r0, eb, fun F' σ' H' s' r' => hq F' H' _ (post r' eo) (by show R _ _ _ _; unfold R; rfl)⟩
    · rename_i q env' eb
      split at hG
      · rename_i q' outs eh eo
        cases hG
        refine ⟨_, r0, eb, fun F' σ' H' v s' r' h' => hq F' H' v (post r' eo) ?_⟩
        cases q with
        | fz d => unfold handed at eh; cases eh; exact h'
        | own d =>
          unfold handed at eh; cases eh
          obtain ⟨a, ho, e1, h1, h2, h3, h4, _⟩ := h'
          exact ⟨a, ho, e1, h1, h2, h3, h4⟩
        | tre d =>
          unfold handed at eh; cases eh
          obtain ⟨fp, h1, _⟩ := h'
          exact ⟨fp, h1.move (.refl _) fun b hb => ⟨(h1.mem hb).1, rfl, (h1.mem hb).2.1⟩⟩
        | bor i =>
          have h' : σ'[i]? = some (some v) := h'
          simp only [handed] at eh
          split at eh
          · rename_i d es
            cases eh
            have z := r'.slot _ _ es
            rw [h'] at z
            cases z with
            | own h1 h2 h3 h4 => exact ⟨_, _, rfl, h1, h2, h3, h4⟩
          · rename_i d es
            cases eh
            have z := r'.slot _ _ es
            rw [h'] at z
            cases z with
            | fz z => exact z
          · rename_i d es
            cases eh
            obtain ⟨v2, fp, g1, g2, _⟩ := r'.tre _ _ es
            rw [h'] at g1; cases g1
            exact ⟨fp, g2.move (.refl _) fun b hb => ⟨(g2.mem hb).1, rfl, (g2.mem hb).2.1⟩⟩
          · cases eh
      · cases hG
    · rename_i c ds env' eb
      split at hG
      · cases hG
      · rename_i outs eo
        cases hG
        exact ⟨_, r0, eb, fun F' σ' H' cls d s' r' h' => hq F' H' cls d (post r' eo) h'⟩
    · cases hG
end
end PV
end

section
set_option maxRecDepth 100000
namespace PV
open PySem PySem.Spec PyProof.Rows L2
variable [CodeTabs]

section
variable {K : PySem.W.Frag} {φ : Act} {F H : Hp} {env : Env} {σ : St}
theorem fixAll_out : ∀ (bx : List Nat) (env : Env) (i : Nat), i ∉ bx → (fixAll bx env)[i]? = env[i]?
  | [], env, i, _ => rfl
  | b :: bx, env, i, h => by
    simp only [List.mem_cons, not_or] at h
    unfold fixAll
    split
    · rw [fixAll_out bx _ i h.2, List.getElem?_set_ne (Ne.symm h.1)]
    · exact fixAll_out bx env i h.2
/-- slots fixed: what they held is a value now -/
theorem Rel.fixAll : ∀ (bx : List Nat) {F : Hp} {env : Env}, Rel K φ F env σ H → ∃ F', Same F F' ∧ Rel K φ F' (PV.fixAll bx env) σ H ∧
    (∀ i ∈ bx, ∀ d, (env[i]? = some (.own d) ∨ env[i]? = some (.fz d)) → ∃ v, σ[i]? = some (some v) ∧ R K F' d v)
  | [], F, env, r => ⟨F, .refl _, r, fun i h => by cases h⟩
  | b :: bx, F, env, r => by
    unfold PV.fixAll
    split
    · rename_i d hd
      obtain ⟨F1, v, s1, r1, e1, h1⟩ := r.fix hd
      obtain ⟨F2, s2, r2, h2⟩ := Rel.fixAll bx r1
      refine ⟨F2, s1.trans s2, r2, fun i hi d' hd' => ?_⟩
      by_cases e : i = b
      · subst e
        rw [hd] at hd'
        rcases hd' with q | q
        · cases q; exact ⟨v, e1, R.mono s2 _ _ h1⟩
        · cases q
      · have hi : i ∈ bx := by rcases List.mem_cons.mp hi with q | q; exact absurd q e; exact q
        exact h2 i hi d' (by rw [List.getElem?_set_ne (Ne.symm e)]; exact hd')
    · rename_i hn
      obtain ⟨F2, s2, r2, h2⟩ := Rel.fixAll bx r
      refine ⟨F2, s2, r2, fun i hi d' hd' => ?_⟩
      by_cases hm : i ∈ bx
      · exact h2 i hm d' hd'
      · have e : i = b := by rcases List.mem_cons.mp hi with q | q; exact q; exact absurd q hm
        subst e
        rcases hd' with q | q
        · exact absurd q (hn d')
        · have z := r.slot _ _ q
          generalize hσ : σ[i]? = o at z
          cases z with
          | fz z => exact ⟨_, rfl, R.mono s2 _ _ z⟩
inductive IoAt (env : Env) (σ : St) : List Nat → List Addr → Prop
  | nil : IoAt env σ [] []
  | cons {i : Nat} {a : Addr} {s : Slot} {ix : List Nat} {io : List Addr} : σ[i]? = some (some (.ref a)) → env[i]? = some s → s.held = true → IoAt env σ ix io → IoAt env σ (i :: ix) (a :: io)
theorem IoAt.mem {ix : List Nat} {io : List Addr} (h : IoAt env σ ix io) : ∀ a, a ∈ io → ∃ i s, i ∈ ix ∧ σ[i]? = some (some (.ref a)) ∧ env[i]? = some s ∧ s.held = true := by
  induction h with
  | nil => intro a h; cases h
  | cons h1 h2 h3 _ ih =>
    intro a ha
    rcases List.mem_cons.mp ha with rfl | ha
    · exact ⟨_, _, List.mem_cons_self, h1, h2, h3⟩
    · obtain ⟨i, s, q1, q2⟩ := ih a ha
      exact ⟨i, s, List.mem_cons_of_mem _ q1, q2⟩
theorem IoAt.nodup {ix : List Nat} {io : List Addr} (r : Rel K φ F env σ H) (h : IoAt env σ ix io) : ix.Nodup → io.Nodup := by
  induction h with
  | nil => intro _; exact List.nodup_nil
  | @cons i a s ix io h1 h2 h3 h ih =>
    intro nd
    obtain ⟨n1, n2⟩ := List.nodup_cons.mp nd
    refine List.nodup_cons.mpr ⟨fun ha => ?_, ih n2⟩
    obtain ⟨j, t, q1, q2, q3, q4⟩ := h.mem a ha
    exact r.dist i j s t a (fun e => n1 (e ▸ q1)) h2 q3 h3 q4 h1 q2
theorem apart_nd : ∀ {ix bx : List Nat}, apart ix bx = true → ix.Nodup ∧ ∀ i ∈ ix, i ∉ bx
  | [], _, _ => ⟨List.nodup_nil, fun i h => by cases h⟩
  | i :: ix, bx, h => by
    unfold apart at h
    simp only [Bool.and_eq_true, Bool.not_eq_true', List.contains_eq_mem] at h
    obtain ⟨⟨h1, h2⟩, h3⟩ := h
    obtain ⟨n, f⟩ := apart_nd h3
    refine ⟨List.nodup_cons.mpr ⟨by simpa using h1, n⟩, fun j hj => ?_⟩
    rcases List.mem_cons.mp hj with rfl | hj
    · simpa using h2
    · exact f j hj
/-- the arguments as they are handed in -/
theorem argsOk {Fc : Hp} {bx : List Nat} (r : Rel K φ F env σ H) (s : Same F Fc) (rc : Rel K φ Fc (PV.fixAll bx env) σ H)
    (hb : ∀ i ∈ bx, ∀ d, (env[i]? = some (.own d) ∨ env[i]? = some (.fz d)) → ∃ v, σ[i]? = some (some v) ∧ R K Fc d v) : ∀ (ms : List Bool) (rs : List RV) (vs : List V) {as : List Arg}, RvsOk K F σ rs vs → (∀ i ∈ borIx ms rs, i ∈ bx) → (∀ i ∈ ioIx ms rs, i ∉ bx) →
      argsOf env ms rs = some as → ∃ io, ArgsOk K Fc H as vs io ∧ IoAt (PV.fixAll bx env) σ (ioIx ms rs) io
  | [], [], _, as, h, _, _, e => by cases h; unfold argsOf at e; cases e; exact ⟨[], .nil, .nil⟩
  | [], _ :: _, _, as, h, _, _, e => by unfold argsOf at e; cases e
  | true :: _, [], _, as, h, _, _, e => by unfold argsOf at e; cases e
  | false :: _, [], _, as, h, _, _, e => by unfold argsOf at e; cases e
  | false :: ms, q :: rs, _, as, h, h1, h2, e => by
    cases h with
    | @fz d v _ vs hr h =>
      simp only [argsOf] at e
      split at e
      · cases e
      · rename_i as' ea
        cases e
        obtain ⟨io, a1, a2⟩ := argsOk r s rc hb ms rs vs h h1 h2 ea
        exact ⟨io, .fz (R.mono s _ _ hr) a1, a2⟩
    | @bor i v _ vs hσ h =>
      have hi : i ∈ bx := h1 i (by simp [borIx])
      have h1' : ∀ j ∈ borIx ms rs, j ∈ bx := fun j hj => h1 j (by simp [borIx, hj])
      simp only [argsOf] at e
      split at e
      · rename_i d hd
        split at e
        · cases e
        · rename_i as' ea
          cases e
          obtain ⟨io, a1, a2⟩ := argsOk r s rc hb ms rs vs h h1' h2 ea
          obtain ⟨v', e1, e2⟩ := hb i hi d (.inl hd)
          rw [hσ] at e1; cases e1
          exact ⟨io, .fz e2 a1, a2⟩
      · rename_i d hd
        split at e
        · cases e
        · rename_i as' ea
          cases e
          obtain ⟨io, a1, a2⟩ := argsOk r s rc hb ms rs vs h h1' h2 ea
          obtain ⟨v', e1, e2⟩ := hb i hi d (.inr hd)
          rw [hσ] at e1; cases e1
          exact ⟨io, .fz e2 a1, a2⟩
      · cases e
  | true :: ms, q :: rs, _, as, h, h1, h2, e => by
    simp only [argsOf] at e
    split at e
    · cases e
    · rename_i j d eh
      split at e
      · cases e
      · rename_i as' ea
        cases e
        obtain ⟨rfl, hs⟩ := heldAt_shape eh
        cases h with
        | @bor _ v _ vs hσ h =>
          have hj : j ∉ bx := h2 j (by simp [ioIx])
          obtain ⟨io, a1, a2⟩ := argsOk r s rc hb ms rs vs h h1 (fun i hi => h2 i (by simp [ioIx, hi])) ea
          have hs' : ∃ t, (PV.fixAll bx env)[j]? = some t ∧ t.held = true ∧ t.d? = some d := by
            rw [fixAll_out _ _ _ hj]
            rcases hs with q | ⟨k, q⟩
            · exact ⟨_, q, rfl, rfl⟩
            · exact ⟨_, q, rfl, rfl⟩
          obtain ⟨t, t1, t2, t3⟩ := hs'
          have z := rc.slot _ _ t1
          rw [hσ] at z
          cases z with
          | un => cases t2
          | fz _ => cases t2
          | own z1 z2 z3 z4 =>
            cases t3
            exact ⟨_ :: io, .io z1 z2 z3 a1, by simp only [ioIx]; exact .cons hσ t1 t2 a2⟩
          | io z1 z2 z3 z4 =>
            cases t3
            exact ⟨_ :: io, .io z2 z3 z4 a1, by simp only [ioIx]; exact .cons hσ t1 t2 a2⟩
          | ex _ _ _ => cases t2
          | tre => cases t2
theorem upSlot_shape {j : Nat} {d : D} {env env' : Env} (e : upSlot j d env = some env') : (∃ d0, env[j]? = some (.own d0) ∧ env' = env.set j (.own d)) ∨ ∃ k d0, env[j]? = some (.io k d0) ∧ env' = env.set j (.io k d) := by
  unfold upSlot at e
  split at e
  · rename_i d0 h; cases e; exact .inl ⟨d0, h, rfl⟩
  · rename_i k d0 h; cases e; exact .inr ⟨k, d0, h, rfl⟩
  · cases e
theorem setOuts_len : ∀ {ix : List Nat} {outs : List D} {env env' : Env}, setOuts ix outs env = some env' → env'.length = env.length
  | [], [], _, _, e => by unfold setOuts at e; cases e; rfl
  | [], _ :: _, _, _, e => by unfold setOuts at e; cases e
  | _ :: _, [], _, _, e => by unfold setOuts at e; cases e
  | i :: ix, d :: ds, env, env', e => by
    unfold setOuts at e
    split at e
    · cases e
    · rename_i env1 e1
      rw [setOuts_len e]
      rcases upSlot_shape e1 with ⟨_, _, rfl⟩ | ⟨_, _, _, rfl⟩ <;> simp
theorem setOuts_get : ∀ {ix : List Nat} {outs : List D} {env env' : Env}, ix.Nodup → setOuts ix outs env = some env' → ∀ (i : Nat) (s : Slot), env'[i]? = some s →
    (i ∉ ix ∧ env[i]? = some s) ∨ (∃ (n : Nat) (d : D), ix[n]? = some i ∧ outs[n]? = some d ∧ ((∃ d0, env[i]? = some (.own d0) ∧ s = .own d) ∨ ∃ k d0, env[i]? = some (.io k d0) ∧ s = .io k d))
  | [], [], _, _, _, e, i, s, h => by unfold setOuts at e; cases e; exact .inl ⟨by simp, h⟩
  | [], _ :: _, _, _, _, e, _, _, _ => by unfold setOuts at e; cases e
  | _ :: _, [], _, _, _, e, _, _, _ => by unfold setOuts at e; cases e
  | j :: ix, d :: ds, env, env', nd, e, i, s, h => by
    obtain ⟨n1, n2⟩ := List.nodup_cons.mp nd
    unfold setOuts at e
    split at e
    · cases e
    · rename_i env1 e1
      rcases setOuts_get n2 e i s h with ⟨q1, q2⟩ | ⟨n, d', q1, q2, q3⟩
      · by_cases hij : j = i
        · subst hij
          rcases upSlot_shape e1 with ⟨d0, z1, rfl⟩ | ⟨k, d0, z1, rfl⟩
          · rw [List.getElem?_set_self (List.getElem?_eq_some_iff.mp z1).1] at q2
            cases q2
            exact .inr ⟨0, d, rfl, rfl, .inl ⟨d0, z1, rfl⟩⟩
          · rw [List.getElem?_set_self (List.getElem?_eq_some_iff.mp z1).1] at q2
            cases q2
            exact .inr ⟨0, d, rfl, rfl, .inr ⟨k, d0, z1, rfl⟩⟩
        · refine .inl ⟨by simp only [List.mem_cons, not_or]; exact ⟨Ne.symm hij, q1⟩, ?_⟩
          rcases upSlot_shape e1 with ⟨d0, z1, rfl⟩ | ⟨k, d0, z1, rfl⟩
          · rwa [List.getElem?_set_ne hij] at q2
          · rwa [List.getElem?_set_ne hij] at q2
      · have hij : j ≠ i := fun z => n1 (by subst z; exact List.mem_of_getElem? q1)
        have back : ∀ t, env1[i]? = some t → env[i]? = some t := fun t ht => by
          rcases upSlot_shape e1 with ⟨d0, z1, rfl⟩ | ⟨k, d0, z1, rfl⟩
          · rwa [List.getElem?_set_ne hij] at ht
          · rwa [List.getElem?_set_ne hij] at ht
        refine .inr ⟨n + 1, d', by simpa using q1, by simpa using q2, ?_⟩
        rcases q3 with ⟨d0, z1, z2⟩ | ⟨k, d0, z1, z2⟩
        · exact .inl ⟨d0, back _ z1, z2⟩
        · exact .inr ⟨k, d0, back _ z1, z2⟩
theorem IoAt.get {ix : List Nat} {io : List Addr} (h : IoAt env σ ix io) : ∀ {n i : Nat}, ix[n]? = some i → ∃ a, io[n]? = some a ∧ σ[i]? = some (some (.ref a)) := by
  induction h with
  | nil => intro n i e; simp at e
  | cons h1 _ _ _ ih =>
    intro n i e
    cases n with
    | zero => simp at e; subst e; exact ⟨_, rfl, h1⟩
    | succ n => simp at e; simpa using ih e
theorem OutsOk.get {F' H' : Hp} {io : List Addr} {outs : List D} (h : OutsOk K F' H' io outs) : ∀ {n : Nat} {a : Addr} {d : D}, io[n]? = some a → outs[n]? = some d → ∃ ho, H' a = some ho ∧ ObjR K F' ho d ∧ F' a = none := by
  induction h with
  | nil => intro n a d e; simp at e
  | cons h1 h2 h3 _ ih =>
    intro n a d e1 e2
    cases n with
    | zero => simp at e1 e2; subst e1 e2; exact ⟨_, h1, h2, h3⟩
    | succ n => exact ih (by simpa using e1) (by simpa using e2)
theorem OutsOk.mem {F' H' : Hp} {io : List Addr} {outs : List D} (h : OutsOk K F' H' io outs) : ∀ a, a ∈ io → ∃ ho, H' a = some ho := by
  induction h with
  | nil => intro a h; cases h
  | cons h1 _ _ _ ih =>
    intro a h
    rcases List.mem_cons.mp h with rfl | h
    · exact ⟨_, h1⟩
    · exact ih a h
/-- trees behind a call -/
theorem Rel.afterK {ix : List Nat} {io : List Addr} {outs : List D} {F' H' : Hp} (r : Rel K φ F env σ H) (at' : IoAt env σ ix io) (p : Post K F H io outs F' H') :
    ∀ (i : Nat) (d : D) (v : V) (fp : List Addr) (b : Addr), env[i]? = some (.tre d) → σ[i]? = some (some v) → TreV K φ F H d v fp → b ∈ fp → F' b = none ∧ H' b = H b ∧ φ.H b = none := by
  intro i d v fp b e hv ht hb
  obtain ⟨q1, q2, ho, q3, q4, _⟩ := ht.mem hb
  refine ⟨?_, ?_, q2⟩
  · cases q : F' b with
    | none => rfl
    | some o =>
      rcases p.new b o q with z | z
      · rw [q1] at z; cases z
      · rw [q3] at z; cases z
  · rw [q3]
    refine p.pres b ho q3 (fun hm => ?_) q4
    obtain ⟨j, t, _, z2, z3, z4⟩ := at'.mem b hm
    obtain ⟨v2, fp2, g1, g2, g3, _⟩ := r.tre i d e
    rw [hv] at g1; cases g1
    rw [ht.unique g2] at hb
    exact g3 j t b z3 z4 z2 hb
theorem setOutsE {ix : List Nat} {outs : List D} {env2 : Env} (nd : ix.Nodup) (e : setOuts ix outs env = some env2) : ∀ (i : Nat) (d : D), env2[i]? = some (.tre d) → env[i]? = some (.tre d) := fun i d h => by
  rcases setOuts_get nd e i _ h with ⟨_, q⟩ | ⟨n, d1, _, _, ⟨d0, _, z⟩ | ⟨k, d0, _, z⟩⟩
  · exact q
  · cases z
  · cases z
/-- behind a call -/
theorem Rel.after {ix : List Nat} {io : List Addr} {outs : List D} {F' H' : Hp} {env2 : Env} (r : Rel K φ F env σ H) (at' : IoAt env σ ix io) (nd : ix.Nodup) (p : Post K F H io outs F' H') (e : setOuts ix outs env = some env2) : Rel K φ F' env2 σ H' := by
  have get := setOuts_get nd e
  have held : ∀ {i : Nat} {s : Slot}, env2[i]? = some s → s.held = true → ∃ t, env[i]? = some t ∧ t.held = true := fun {i s} es hs => by
    rcases get i s es with ⟨_, q⟩ | ⟨n, d, _, _, ⟨d0, q, rfl⟩ | ⟨k, d0, q, rfl⟩⟩
    · exact ⟨s, q, hs⟩
    · exact ⟨_, q, rfl⟩
    · exact ⟨_, q, rfl⟩
  have notIo : ∀ {i : Nat} {s : Slot} {a : Addr}, i ∉ ix → env[i]? = some s → s.held = true → σ[i]? = some (some (.ref a)) → a ∉ io := fun {i s a} hi es hs hσ ha => by
    obtain ⟨j, t, q1, q2, q3, q4⟩ := at'.mem a ha
    exact r.dist i j s t a (fun z => hi (z ▸ q1)) es q3 hs q4 hσ q2
  have gone : ∀ {a : Addr} {ho : HO}, F a = none → H a = some ho → F' a = none := fun {a ho} hF hH => by
    cases q : F' a with
    | none => rfl
    | some o =>
      rcases p.new a o q with z | z
      · rw [hF] at z; cases z
      · rw [hH] at z; cases z
  refine ⟨p.sub, r.old.trans p.old, fun b o e1 e2 e3 => ?_, fun b o e1 => ?_, fun i s es => ?_, fun i j s t a hij es et hs ht h1 h2 => ?_, by rw [setOuts_len e]; exact r.len, fun a ha => ?_, fun b ps e1 => ?_, p.tab, p.ntb,
    r.tre.move p.old (fun i d h => ⟨setOutsE nd e i d h, rfl⟩) (r.afterK at' p) fun i d v fp j u a _ _ _ ej hu hj _ => by obtain ⟨t, t1, t2⟩ := held ej hu; exact ⟨t, t1, t2, hj⟩, r.ioA⟩
  · refine p.pres b o (r.pres b o e1 e2 e3) (fun hb => ?_) e3
    obtain ⟨i, s, q1, q2, q3, q4⟩ := at'.mem b hb
    have z := r.slot i s q3
    rw [q2] at z
    cases z with
    | un => cases q4
    | fz _ => cases q4
    | own _ _ _ z => rw [z] at e1; cases e1
    | io z _ _ _ => exact e2 (List.mem_of_getElem? z)
    | ex _ _ _ => cases q4
    | tre => cases q4
  · rcases p.new b o e1 with z | z
    · exact r.new b o z
    · exact .inr (r.actNone z)
  · rcases get i s es with ⟨hi, q⟩ | ⟨n, d, q1, q2, q3⟩
    · have z := r.slot i s q
      generalize hσ : σ[i]? = oσ at z
      cases z with
      | un => exact .un
      | fz z => exact .fz (R.mono p.old _ _ z)
      | own h1 h2 h3 h4 => exact .own (p.pres _ _ h1 (notIo hi q rfl hσ) h2.ntbl) (h2.mono p.old) (gone h3 h1) h4
      | io h1 h2 h3 h4 => exact .io h1 (p.pres _ _ h2 (notIo hi q rfl hσ) h3.ntbl) (h3.mono p.old) (gone h4 h2)
      | ex h1 h2 h3 => exact .ex h1 h2 (h3.mono p.old)
      | tre => exact .tre
    · obtain ⟨a, a1, a2⟩ := at'.get q1
      obtain ⟨ho, o1, o2, o3⟩ := p.outs.get a1 q2
      rw [a2]
      rcases q3 with ⟨d0, z1, rfl⟩ | ⟨k, d0, z1, rfl⟩
      · have z := r.slot i _ z1
        rw [a2] at z
        cases z with
        | own h1 h2 h3 h4 => exact .own o1 o2 o3 h4
      · have z := r.slot i _ z1
        rw [a2] at z
        cases z with
        | io h1 h2 h3 h4 => exact .io h1 o1 o2 o3
  · obtain ⟨s', es', hs'⟩ := held es hs
    obtain ⟨t', et', ht'⟩ := held et ht
    exact r.dist i j s' t' a hij es' et' hs' ht' h1 h2
  · obtain ⟨ho, q⟩ := r.ioH a ha
    by_cases m : a ∈ io
    · exact p.outs.mem a m
    · by_cases ht : ∃ ps, ho = .tbl ps
      · obtain ⟨ps, rfl⟩ := ht
        obtain ⟨qs, z⟩ := p.presT a ps q
        exact ⟨_, z⟩
      · exact ⟨ho, p.pres a ho q m fun ps z => ht ⟨ps, z⟩⟩
  · obtain ⟨qs, z⟩ := r.presT b ps e1
    exact p.presT b qs z
/-- what is handed back -/
theorem ResOk.rv {F' H' : Hp} {env2 : Env} {q : RV} {v : V} (r : Rel K φ F env σ H) (hd : ∀ {i : Nat} {s : Slot}, env2[i]? = some s → s.held = true → ∃ t, env[i]? = some t ∧ t.held = true) (hs : Same F F') (hE : ∀ (i : Nat) (d : D), env2[i]? = some (.tre d) → env[i]? = some (.tre d))
    (hK : ∀ (i : Nat) (d : D) (v : V) (fp : List Addr) (b : Addr), env[i]? = some (.tre d) → σ[i]? = some (some v) → TreV K φ F H d v fp → b ∈ fp → F' b = none ∧ H' b = H b ∧ φ.H b = none) (h : ResOk K F' H' H q v) : RvOk K φ F' H' env2 σ q v := by
  have nT : ∀ p, H p = none → NoTre K φ F' H' env2 σ p := fun p hp => NoTre.move (Rel.farT hp) r.tre hs (fun i d h => ⟨hE i d h, rfl⟩) hK
  cases q with
  | fz d => exact h
  | own d =>
    obtain ⟨p, ho, rfl, h1, h2, h3, h4⟩ := h
    refine ⟨p, ho, rfl, h1, h2, h3, r.actNone h4, fun i s es hs hσ => ?_, nT p h4⟩
    obtain ⟨t, et, ht⟩ := hd es hs
    exact r.far h4 i t et ht hσ
  | tre d =>
    obtain ⟨fp, h1⟩ := h
    have hn : ∀ b, b ∈ fp → H b = none := fun b hb => (h1.mem hb).2.1
    refine ⟨fp, h1.move (.refl _) fun b hb => ⟨(h1.mem hb).1, rfl, r.actNone (hn b hb)⟩, fun a ha => ⟨fun i s es hs hσ => ?_, nT a (hn a ha)⟩⟩
    obtain ⟨t, et, ht⟩ := hd es hs
    exact r.far (hn a ha) i t et ht hσ
  | bor i => exact h.elim
theorem R.scal {F F' : Hp} {d : D} {v : V} (hs : d.scal = true) (h : R K F d v) : R K F' d v := by
  cases d with
  | non => unfold R at h ⊢; exact h
  | bl b => unfold R at h ⊢; exact h
  | int i => unfold R at h ⊢; exact h
  | str s => unfold R at h ⊢; exact h
  | _ => cases hs
theorem RL.scal {F F' : Hp} : ∀ {ds : List D} {vs : List V}, ds.all D.scal = true → RL K F ds vs → RL K F' ds vs
  | [], _, _, h => by unfold RL at h; subst h; exact RL.nil
  | d :: ds, _, hs, h => by
    unfold RL at h
    obtain ⟨v, r, rfl, h1, h2⟩ := h
    simp only [List.all_cons, Bool.and_eq_true] at hs
    exact RL.cons (R.scal hs.1 h1) (RL.scal hs.2 h2)
end

section
variable {K : PySem.W.Frag} {cm : CM} {φ : Act} {W : WX} {F H : Hp} {env : Env} {σ : St} {G : Fn} {ms : List Bool} {es : EL}
def rEO (K : PySem.W.Frag) (cm : CM) (φ : Act) (W : WX) (f : EO) : TE := fun σ H Q => ∃ F env o, Rel K φ F env σ H ∧ f env = some o ∧
  match o with
  | .val r env' => ∀ F' H' v, Same F F' → Rel K φ F' env' σ H' → RvOk K φ F' H' env' σ r v → Q v H'
  | .exc c ds env' => ∀ F' H' cls d, Same F F' → Rel K φ F' env' σ H' → ExcOk K F' H' cm c ds cls d → W cls d σ H'
theorem rEO_call {n : Nat} {Q : VK} (hn : ms.length = n) (h : rEO K cm φ W (eCallO G ms es) σ H Q) : rA K φ es σ H fun vs H1 => spF K cm n G vs H1 Q (fun cls d H' => W cls d σ H') := by
  obtain ⟨F, env, o, r0, e, k⟩ := h
  unfold eCallO at e
  split at e
  · cases e
  · rename_i rs env1 ea
    refine ⟨F, env, rs, env1, r0, ea, fun F1 H1 vs s1 r1 h1 => ?_⟩
    split at e
    · cases e
    · rename_i as eas
      split at e
      · rename_i hap
        obtain ⟨nd, ap⟩ := apart_nd hap
        obtain ⟨Fc, sc, rc, hb⟩ := Rel.fixAll (borIx ms rs) r1
        obtain ⟨io, hargs, hio⟩ := argsOk r1 sc rc hb ms rs vs h1 (fun i hi => hi) (fun i hi => ap i hi) eas
        have lenA : as.length = n := by
          have : ∀ (ms : List Bool) (rs : List RV) (as : List Arg), argsOf env1 ms rs = some as → as.length = ms.length := by
            intro ms
            induction ms with
            | nil => intro rs as e; cases rs with
              | nil => unfold argsOf at e; cases e; rfl
              | cons q rs => unfold argsOf at e; cases e
            | cons m ms ih =>
              intro rs as e
              cases rs with
              | nil => cases m <;> (unfold argsOf at e; cases e)
              | cons q rs =>
                cases m with
                | true =>
                  simp only [argsOf] at e
                  split at e
                  · cases e
                  · split at e
                    · cases e
                    · rename_i as' e'
                      cases e
                      simp [ih rs as' e']
                | false =>
                  simp only [argsOf] at e
                  split at e
                  · split at e
                    · split at e
                      · cases e
                      · rename_i as' e'
                        cases e
                        simp [ih rs as' e']
                    · split at e
                      · cases e
                      · rename_i as' e'
                        cases e
                        simp [ih rs as' e']
                    · cases e
                  · split at e
                    · cases e
                    · rename_i as' e'
                      cases e
                      simp [ih rs as' e']
                  · cases e
                  · cases e
          rw [this ms rs as eas, hn]
        split at e
        · cases e
        · rename_i q outs eG
          split at e
          · cases e
          · rename_i env2 eso
            cases e
            refine ⟨Fc, as, io, _, lenA, rc.sub, ⟨rc.tab, rc.ntb⟩, hargs, IoAt.nodup rc hio nd, eG, fun F' H' v p hres => ?_⟩
            have heldOf : ∀ {envc : Env}, setOuts (ioIx ms rs) outs envc = some env2 → ∀ {i : Nat} {s : Slot}, env2[i]? = some s → s.held = true → ∃ t, envc[i]? = some t ∧ t.held = true := fun {envc} es0 {i s} es hs => by
              rcases setOuts_get nd es0 i s es with ⟨_, q⟩ | ⟨n, d, _, _, ⟨d0, q, rfl⟩ | ⟨k, d0, q, rfl⟩⟩
              · exact ⟨s, q, hs⟩
              · exact ⟨_, q, rfl⟩
              · exact ⟨_, q, rfl⟩
            by_cases fl : (q.flat && (ioIx ms rs).isEmpty) = true
            · rw [if_pos fl] at eso
              simp only [Bool.and_eq_true, List.isEmpty_iff] at fl
              obtain ⟨f1, f2⟩ := fl
              rw [f2] at hio eso
              cases hio
              have e2 : env1 = env2 := by
                cases outs with
                | nil => unfold setOuts at eso; cases eso; rfl
                | cons _ _ => unfold setOuts at eso; cases eso
              subst e2
              -- what was lent comes back
              obtain ⟨F2, hF2⟩ : ∃ F2 : Hp, F2 = fun b => match F1 b with
                | some o => some o
                | none => match Fc b with
                  | some _ => none
                  | none => F' b := ⟨_, rfl⟩
              have g1 : ∀ b o, F1 b = some o → F2 b = some o := fun b o z => by rw [hF2]; simp only [z]
              have g2 : ∀ b o, F2 b = some o → F1 b = some o ∨ (Fc b = none ∧ F' b = some o) := fun b o z => by
                rw [hF2] at z
                simp only at z
                split at z
                · rename_i o' e'; cases z; exact .inl e'
                · split at z
                  · cases z
                  · rename_i e'; exact .inr ⟨e', z⟩
              have pres : ∀ b o, H1 b = some o → (∀ ps, o ≠ .tbl ps) → H' b = some o := fun b o z z2 => p.pres b o z (by simp) z2
              have gone : ∀ {a : Addr} {ho : HO}, F1 a = none → H1 a = some ho → F2 a = none := fun {a ho} hF hH => by
                cases z : F2 a with
                | none => rfl
                | some o =>
                  rcases g2 a o z with y | ⟨y1, y2⟩
                  · rw [hF] at y; cases y
                  · rcases p.new a o y2 with x | x
                    · rw [y1] at x; cases x
                    · rw [hH] at x; cases x
              have hK1 : ∀ (i : Nat) (d : D) (v : V) (fp : List Addr) (b : Addr), env1[i]? = some (.tre d) → σ[i]? = some (some v) → TreV K φ F1 H1 d v fp → b ∈ fp → F2 b = none ∧ H' b = H1 b ∧ φ.H b = none := fun i d v fp b _ _ ht hb => by
                obtain ⟨q1, q2, ho, q3, q4, _⟩ := ht.mem hb
                exact ⟨gone q1 q3, by rw [q3]; exact pres b ho q3 q4, q2⟩
              have r2 : Rel K φ F2 env1 σ H' := by
                refine ⟨fun b o z => ?_, fun b o z => g1 b o (r1.old b o z), fun b o z1 z2 z3 => pres b o (r1.pres b o z1 z2 z3) z3, fun b o z => ?_, fun i s es => ?_, r1.dist, r1.len, fun a ha => ?_, fun b ps z => ?_, p.tab, fun b ps z => ?_, r1.tre.move g1 (fun i d h => ⟨h, rfl⟩) hK1 (fun i d v fp j u a _ _ _ ej hu hj _ => ⟨u, ej, hu, hj⟩), r1.ioA⟩
                · rcases g2 b o z with y | ⟨_, y⟩
                  · exact pres b o (r1.sub b o y) fun ps z => r1.ntb b ps (by rw [y, z])
                  · exact p.sub b o y
                · rcases g2 b o z with y | ⟨y1, y2⟩
                  · exact r1.new b o y
                  · rcases p.new b o y2 with x | x
                    · rw [y1] at x; cases x
                    · exact .inr (r1.actNone x)
                · have z := r1.slot i s es
                  generalize hσ : σ[i]? = oσ at z
                  cases z with
                  | un => exact .un
                  | fz z => exact .fz (R.mono g1 _ _ z)
                  | own h1 h2 h3 h4 => exact .own (pres _ _ h1 h2.ntbl) (h2.mono g1) (gone h3 h1) h4
                  | io h1 h2 h3 h4 => exact .io h1 (pres _ _ h2 h3.ntbl) (h3.mono g1) (gone h4 h2)
                  | ex h1 h2 h3 => exact .ex h1 h2 (h3.mono g1)
                  | tre => exact .tre
                · obtain ⟨ho, q⟩ := r1.ioH a ha
                  by_cases ht : ∃ ps, ho = .tbl ps
                  · obtain ⟨ps, rfl⟩ := ht
                    obtain ⟨qs, z⟩ := p.presT a ps q
                    exact ⟨_, z⟩
                  · exact ⟨ho, pres a ho q fun ps z => ht ⟨ps, z⟩⟩
                · obtain ⟨qs, z2⟩ := r1.presT b ps z
                  exact p.presT b qs z2
                · rcases g2 b _ z with y | ⟨_, y⟩
                  · exact r1.ntb b ps y
                  · exact p.ntb b ps y
              refine k F2 H' v (s1.trans g1) r2 ?_
              cases q with
              | fz d => exact R.scal f1 (show R K F' d v from hres)
              | own d =>
                obtain ⟨a, ho, rfl, h1', h2', h3', h4'⟩ := hres
                have hF2a : F2 a = none := by
                  cases z : F2 a with
                  | none => rfl
                  | some o =>
                    rcases g2 a o z with y | ⟨_, y⟩
                    · have := r1.sub a o y; rw [h4'] at this; cases this
                    · rw [h3'] at y; cases y
                refine ⟨a, ho, rfl, h1', ?_, hF2a, r1.actNone h4', r1.far h4', NoTre.move (Rel.farT h4') r1.tre g1 (fun i d h => ⟨h, rfl⟩) hK1⟩
                cases d with
                | lst ds =>
                  cases ho with
                  | lst vs' => exact RL.scal f1 h2'
                  | _ => exact h2'.elim
                | _ => cases f1
              | bor i => cases f1
              | tre d => cases f1
            · rw [if_neg fl] at eso
              have r2 := rc.after hio nd p eso
              exact k F' H' v (s1.trans (sc.trans p.old)) r2 (ResOk.rv rc (heldOf eso) p.old (setOutsE nd eso) (rc.afterK hio p) hres)
        · rename_i c ds outs eG
          split at e
          · cases e
          · rename_i env2 eso
            cases e
            refine ⟨Fc, as, io, _, lenA, rc.sub, ⟨rc.tab, rc.ntb⟩, hargs, IoAt.nodup rc hio nd, eG, fun F' H' cls d p hx => ?_⟩
            exact k F' H' cls d (s1.trans (sc.trans p.old)) (rc.after hio nd p eso) hx
      · cases e
theorem rE_call {n : Nat} {Q : VK} (hn : ms.length = n) (h : rE K φ (eCall G ms es) σ H Q) : rA K φ es σ H fun vs H1 => spF K cm n G vs H1 Q E0 := by
  refine rEO_call (W := fun _ _ _ _ => False) hn ?_
  obtain ⟨F, env, q, env', r0, e, k⟩ := h
  unfold eCall at e
  split at e
  · rename_i q' env1 eo
    cases e
    exact ⟨F, env, _, r0, eo, k⟩
  · cases e
end
section
variable {X : Cx} {Γ : Hp → Option Ea → Prop} {cm : CM} {W : WX} {k n : Nat} {f : Addr} {fd : FuncData} {ps : List Str} {G : Fn} {x : Str} {p pos : Pos} {a : Expr} {es : List Expr} {g : EL}
theorem ex_call (ms : List Bool) (F : FnOk X.prog X.w X.K X.mg X.base (L2.CX X.prog X.w) k f fd ps (spF X.K cm n G)) (hr : Room k X.A) (hg : Gl X x) (hm : X.mg x = some (.ref f)) (hk : PySem.W.keepIn X.K (.ref f) = true) (hb : Binds X.K fd ps [])
    (hn : ms.length = n) (ha : AX X Γ (a :: es) g) (hdb : (x == ("__debug__" : Str)) = false := by decide) (he : starEach (a :: es) X.env = (false, eval a X.env) :: starEach es X.env := by rfl) (hpl : (backTo pos (starEach es X.env)).any (·.1) = false := by rfl) :
    EX X Γ (.Call (.Name x p) (a :: es) [] pos) (eCall G ms g) :=
  ⟨fun φ hφ => PE.weak (pe_call F hr hg hm hk hb .nil passL (ha.at' φ hφ) hdb he hpl) fun σ H Q h => by
    obtain ⟨F, env, rs, env', r0, e, kk⟩ := rE_call (cm := cm) hn h
    exact ⟨F, env, rs, env', r0, e, fun F' H' vs s' r' h' => by show spF X.K cm n G (vs ++ []) H' Q E0; rw [List.append_nil]; exact kk F' H' vs s' r' h'⟩⟩
/-- a call that may raise -/
structure EXO (X : Cx) (Γ : Hp → Option Ea → Prop) (cm : CM) (W : WX) (e : Expr) (f : EO) : Prop where
  at' : ∀ φ : Act, Γ φ.F φ.ea → PE X e (rEO X.K cm φ W f)
theorem exo_call (ms : List Bool) (tk : Takes X W) (F : FnOk X.prog X.w X.K X.mg X.base (L2.CX X.prog X.w) k f fd ps (spF X.K cm n G)) (hr : Room k X.A) (hg : Gl X x) (hm : X.mg x = some (.ref f)) (hk : PySem.W.keepIn X.K (.ref f) = true) (hb : Binds X.K fd ps [])
    (hn : ms.length = n) (ha : AX X Γ (a :: es) g) (hdb : (x == ("__debug__" : Str)) = false := by decide) (he : starEach (a :: es) X.env = (false, eval a X.env) :: starEach es X.env := by rfl) (hpl : (backTo pos (starEach es X.env)).any (·.1) = false := by rfl) :
    EXO X Γ cm W (.Call (.Name x p) (a :: es) [] pos) (eCallO G ms g) :=
  ⟨fun φ hφ => PE.weak (pe_callS F hr hg hm hk hb (fun σ => passAt tk σ) (ha.at' φ hφ) hdb he hpl) fun σ H Q h => rEO_call hn h⟩
end
section
variable {K : PySem.W.Frag} {cm : CM} {φ : Act} {W : WX} {a : EO} {D : Ends} {σ : St} {H : Hp}
theorem rS_exprO (h : rS K cm φ W (sExprO a) D σ H) : tDrop (rEO K cm φ W a) D σ H := by
  obtain ⟨F, env, o, r0, e, k⟩ := h
  unfold sExprO at e
  split at e
  · cases e
  · rename_i q env1 ea
    cases e
    exact ⟨F, env, _, r0, ea, fun F1 H1 v s1 r1 _ => k F1 σ H1 s1 r1⟩
  · rename_i c ds env1 ea
    cases e
    exact ⟨F, env, _, r0, ea, fun F1 H1 cls d s1 r1 hx => k F1 σ H1 cls d s1 r1 hx⟩
theorem rS_retO (h : rS K cm φ W (sRetO a) D σ H) : tRet (rEO K cm φ W a) D σ H := by
  obtain ⟨F, env, o, r0, e, k⟩ := h
  unfold sRetO at e
  split at e
  · cases e
  · rename_i q env1 ea
    cases e
    exact ⟨F, env, _, r0, ea, fun F1 H1 v s1 r1 h1 => k F1 σ H1 v s1 r1 h1⟩
  · rename_i c ds env1 ea
    cases e
    exact ⟨F, env, _, r0, ea, fun F1 H1 cls d s1 r1 hx => k F1 σ H1 cls d s1 r1 hx⟩
theorem rS_setO {i : Nat} (h : rS K cm φ W (sSetO i a) D σ H) : tAsg (rEO K cm φ W a) (gName i) D σ H := by
  obtain ⟨F, env, o, r0, e, k⟩ := h
  unfold sSetO at e
  split at e
  · cases e
  · rename_i q env1 ea
    refine ⟨F, env, _, r0, ea, fun F1 H1 v s1 r1 h1 => ?_⟩
    unfold sSet at e
    split at e
    · cases e
    · rename_i d env2 eq
      cases eq
      split at e
      · cases e
      · rename_i env3 ep
        cases e
        exact k F1 _ H1 s1 (r1.putOwn ep h1)
    · rename_i d env2 eq
      cases eq
      split at e
      · cases e
      · rename_i env3 ep
        cases e
        exact k F1 _ H1 s1 (r1.putTre ep h1)
    · rename_i q' env2 hn hn2 eq
      cases eq
      split at e
      · cases e
      · rename_i d env3 ef
        split at e
        · cases e
        · rename_i env4 ep
          cases e
          obtain ⟨F2, s2, r2, h2⟩ := r1.freeze h1 ef
          exact k F2 _ H1 (s1.trans s2) (r2.putFz ep h2)
  · rename_i c ds env1 ea
    cases e
    exact ⟨F, env, _, r0, ea, fun F1 H1 cls d s1 r1 hx => k F1 σ H1 cls d s1 r1 hx⟩
end
section
variable {X : Cx} {Γ : Hp → Option Ea → Prop} {cm : CM} {W : WX} {e : Expr} {a : EO} {pos : Pos}
theorem sx_exprO (he : EXO X Γ cm W e a) (hs : swapsWith e none pos.line X.env = pure false := by rfl) : SX X Γ cm W (.Expr e pos) (sExprO a) := ⟨fun φ hφ => PS.weak (ps_expr (he.at' φ hφ) hs) fun _ _ _ h => rS_exprO h⟩
theorem sx_retO (he : EXO X Γ cm W e a) : SX X Γ cm W (.Return (some e) pos) (sRetO a) := ⟨fun φ hφ => PS.weak (ps_ret (he.at' φ hφ)) fun _ _ _ h => rS_retO h⟩
theorem sx_setO {i : Nat} {x : Str} {pos' : Pos} (hN : X.N.Nodup) (hi : X.N[i]? = some x) (hx : Loc X.env.scope x) (he : EXO X Γ cm W e a) (hs : swapsWith e (some (.Name x pos')) pos.line X.env = pure false := by rfl) (hf : X.fn x = true ∨ X.env.scope.names.lookup x = some .local := by first | exact .inl rfl | exact .inr rfl | assumption) :
    SX X Γ cm W (.Assign [.Name x pos'] e pos) (sSetO i a) := ⟨fun φ hφ => PS.weak (ps_set hN hi hx (he.at' φ hφ) hs hf) fun _ _ _ h => rS_setO h⟩
end
end PV
end

section
set_option maxRecDepth 100000
namespace PV
open PySem PySem.Spec PyProof.Rows L2
variable [CodeTabs]

/-! ### data as the kit's data -/
mutual
def D.py : D → PyData
  | .non => .none
  | .bl b => .bool b
  | .int i => .int i
  | .str s => .str ⟨s.toArray⟩
  | .lst xs => .list (pyL xs)
  | .tup xs => .tuple (pyL xs)
  | .dic _ _ => .none
  | .scr _ => .none
def pyL : List D → List PyData
  | [] => []
  | x :: xs => x.py :: pyL xs
end
theorem str_eq {x y : List Nat} : ((⟨x.toArray⟩ : Str) == ⟨y.toArray⟩) = (x == y) := by
  by_cases h : x = y
  · subst h; simp
  · have : ¬ ((⟨x.toArray⟩ : Str) = ⟨y.toArray⟩) := fun q => h (by injection q with q; simpa using q)
    rw [beq_eq_false_iff_ne.mpr this, beq_eq_false_iff_ne.mpr h]
mutual
theorem eqv_py : ∀ (n m : Nat) (a b : D), a.shal n = true → b.shal m = true → PyData.eqv a.py b.py = a.eqv b
  | n, m, a, b, ha, hb => by
    cases a with
    | dic _ _ => cases n <;> cases ha
    | scr _ => cases n <;> cases ha
    | lst xs =>
      cases n with
      | zero => cases ha
      | succ n =>
        cases b with
        | dic _ _ => cases m <;> cases hb
        | scr _ => cases m <;> cases hb
        | lst ys =>
          cases m with
          | zero => cases hb
          | succ m => simp only [D.py, PyData.eqv, D.eqv]; exact eqvL_py n m xs ys ha hb
        | _ => simp only [D.py, PyData.eqv, D.eqv]
    | tup xs =>
      cases n with
      | zero => cases ha
      | succ n =>
        cases b with
        | dic _ _ => cases m <;> cases hb
        | scr _ => cases m <;> cases hb
        | tup ys =>
          cases m with
          | zero => cases hb
          | succ m => simp only [D.py, PyData.eqv, D.eqv]; exact eqvL_py n m xs ys ha hb
        | _ => simp only [D.py, PyData.eqv, D.eqv]
    | str x =>
      cases b with
      | dic _ _ => cases m <;> cases hb
      | scr _ => cases m <;> cases hb
      | str y => simp only [D.py, PyData.eqv, D.eqv]; exact str_eq
      | _ => simp only [D.py, PyData.eqv, D.eqv]
    | non =>
      cases b with
      | dic _ _ => cases m <;> cases hb
      | scr _ => cases m <;> cases hb
      | _ => simp only [D.py, PyData.eqv, D.eqv]
    | bl _ =>
      cases b with
      | dic _ _ => cases m <;> cases hb
      | scr _ => cases m <;> cases hb
      | _ => simp only [D.py, PyData.eqv, D.eqv]
    | int _ =>
      cases b with
      | dic _ _ => cases m <;> cases hb
      | scr _ => cases m <;> cases hb
      | _ => simp only [D.py, PyData.eqv, D.eqv]
theorem eqvL_py : ∀ (n m : Nat) (a b : List D), shalL n a = true → shalL m b = true → PyData.eqvAll (pyL a) (pyL b) = eqvL a b
  | _, _, [], [], _, _ => by simp only [pyL, PyData.eqvAll, eqvL]
  | _, _, [], _ :: _, _, _ => by simp only [pyL, PyData.eqvAll, eqvL]
  | _, _, _ :: _, [], _, _ => by simp only [pyL, PyData.eqvAll, eqvL]
  | n, m, x :: xs, y :: ys, ha, hb => by
    simp only [shalL, Bool.and_eq_true] at ha hb
    simp only [pyL, PyData.eqvAll, eqvL]
    rw [eqv_py n m x y ha.1 hb.1, eqvL_py n m xs ys ha.2 hb.2]
end
mutual
theorem depth_py : ∀ (n : Nat) (a : D), a.shal n = true → a.py.depth ≤ n
  | n, a, h => by
    cases a with
    | lst xs =>
      cases n with
      | zero => cases h
      | succ n => simp only [D.py, PyData.depth]; exact Nat.succ_le_succ (depthL_py n xs h)
    | tup xs =>
      cases n with
      | zero => cases h
      | succ n => simp only [D.py, PyData.depth]; exact Nat.succ_le_succ (depthL_py n xs h)
    | _ => simp only [D.py, PyData.depth]; exact Nat.zero_le _
theorem depthL_py : ∀ (n : Nat) (a : List D), shalL n a = true → PyData.depthAll (pyL a) ≤ n
  | n, [], _ => by simp only [pyL, PyData.depthAll]; exact Nat.zero_le _
  | n, x :: xs, h => by
    simp only [shalL, Bool.and_eq_true] at h
    simp only [pyL, PyData.depthAll]
    exact Nat.max_le.mpr ⟨depth_py n x h.1, depthL_py n xs h.2⟩
end
theorem okS_all {s : List Nat} (h : okS s = true) : PyData.strOk ⟨s.toArray⟩ = true := by
  unfold okS at h; simp only [Bool.and_eq_true] at h
  unfold PyData.strOk
  simp only [List.all_toArray] at *
  simpa using h.2
section
variable {K : PySem.W.Frag} {F H : Hp}
mutual
theorem R.dp (s : Same F H) : ∀ (n : Nat) (d : D) (v : V), d.shal n = true → R K F d v → Dp K H v d.py ∧ d.py.canLay0 = true
  | n, .non, v, _, h => by unfold R at h; subst h; exact ⟨.non, rfl⟩
  | n, .bl b, v, _, h => by unfold R at h; subst h; exact ⟨.bl b, rfl⟩
  | n, .int i, v, _, h => by unfold R at h; subst h; exact ⟨.int i, rfl⟩
  | n, .str x, v, _, h => by unfold R at h; obtain ⟨rfl, ho⟩ := h; exact ⟨.str _, by simp only [D.py, PyData.canLay0]; exact okS_all ho⟩
  | 0, .lst ds, v, hs, _ => by cases hs
  | n + 1, .lst ds, v, hs, h => by
    unfold R at h
    obtain ⟨a, vs, rfl, h1, h2⟩ := h
    obtain ⟨q1, q2⟩ := RL.dp s n ds vs hs h2
    exact ⟨.lst (SqL.of (s _ _ h1)) q1, by simp only [D.py, PyData.canLay0]; exact q2⟩
  | 0, .tup ds, v, hs, _ => by cases hs
  | n + 1, .tup ds, v, hs, h => by
    unfold R at h
    obtain ⟨a, vs, rfl, h1, h2⟩ := h
    obtain ⟨q1, q2⟩ := RL.dp s n ds vs hs h2
    exact ⟨.tup (SqT.of (s _ _ h1)) q1, by simp only [D.py, PyData.canLay0]; exact q2⟩
  | n, .dic _ _, _, hs, _ => by cases n <;> cases hs
  | n, .scr _, _, hs, _ => by cases n <;> cases hs
theorem RL.dp (s : Same F H) : ∀ (n : Nat) (ds : List D) (vs : List V), shalL n ds = true → RL K F ds vs → DpAll K H vs (pyL ds) ∧ PyData.canLayAll0 (pyL ds) = true
  | n, [], _, _, h => by unfold RL at h; subst h; exact ⟨.nil, rfl⟩
  | n, d :: ds, _, hs, h => by
    unfold RL at h
    obtain ⟨v, r, rfl, h1, h2⟩ := h
    simp only [shalL, Bool.and_eq_true] at hs
    obtain ⟨q1, q2⟩ := R.dp s n d v hs.1 h1
    obtain ⟨q3, q4⟩ := RL.dp s n ds r hs.2 h2
    exact ⟨.cons q1 q3, by simp only [pyL, PyData.canLayAll0, q2, q4, Bool.and_self]⟩
end
theorem PVal.dp {n : Nat} {d : D} {v : V} (s : Same F H) (hs : d.shal n = true) (h : PVal K F H d v) : Dp K H v d.py ∧ d.py.canLay0 = true := by
  rcases h with h | ⟨a, ho, rfl, h, o⟩
  · exact R.dp s n d v hs h
  · cases d with
    | lst ds =>
      cases ho with
      | lst vs =>
        cases n with
        | zero => cases hs
        | succ n =>
          obtain ⟨q1, q2⟩ := RL.dp s n ds vs hs o
          exact ⟨.lst (SqL.of h) q1, by simp only [D.py, PyData.canLay0]; exact q2⟩
      | _ => exact o.elim
    | dic _ _ => cases n <;> cases hs
    | _ => cases ho <;> exact o.elim
theorem shaped_of {n : Nat} {d : D} (hn : n ≤ 64) (hs : d.shal n = true) (hl : d.py.canLay0 = true) : SeqAt.shaped d.py = true := by
  unfold SeqAt.shaped
  have := depth_py n d hs
  simp only [hl, Bool.true_and, decide_eq_true_eq]
  omega
theorem opd_eq : OpD K (rEqD K) dEq := by
  intro F H x y c d res Q s hc hd e
  unfold dEq at e
  split at e
  · rename_i h
    simp only [Bool.and_eq_true] at h
    cases e
    refine ⟨fun i q => (nomatch q), fun q => ?_⟩
    obtain ⟨p1, p2⟩ := hc.dp s h.1
    obtain ⟨q1, q2⟩ := hd.dp s h.2
    exact ⟨c.py, d.py, p1, q1, shaped_of (by decide) h.1 p2, shaped_of (by decide) h.2 q2, by rw [eqv_py _ _ _ _ h.1 h.2]; exact q.1 _ (by unfold R; rfl)⟩
  · cases e
theorem opd_ne : OpD K (rNeD K) dNe := by
  intro F H x y c d res Q s hc hd e
  unfold dNe at e
  split at e
  · rename_i h
    simp only [Bool.and_eq_true] at h
    cases e
    refine ⟨fun i q => (nomatch q), fun q => ?_⟩
    obtain ⟨p1, p2⟩ := hc.dp s h.1
    obtain ⟨q1, q2⟩ := hd.dp s h.2
    exact ⟨c.py, d.py, p1, q1, shaped_of (by decide) h.1 p2, shaped_of (by decide) h.2 q2, by rw [eqv_py _ _ _ _ h.1 h.2]; exact q.1 _ (by unfold R; rfl)⟩
  · cases e
end

/-! ### numbers -/
section
variable {K : PySem.W.Frag} {X : Cx}
theorem RL.ints {F : Hp} : ∀ {ds : List D} {vs : List V} {is : List Int}, RL K F ds vs → asInts ds = some is → vs = is.map V.int
  | [], _, is, h, e => by unfold RL at h; subst h; unfold asInts at e; cases e; rfl
  | d :: ds, _, is, h, e => by
    unfold RL at h
    obtain ⟨v, r, rfl, h1, h2⟩ := h
    cases d with
    | int i =>
      simp only [asInts] at e
      split at e
      · cases e
      · rename_i is' e'
        cases e
        unfold R at h1
        rw [RL.ints h2 e', h1]; rfl
    | _ => simp only [asInts] at e; cases e
theorem RL.ofInts {F : Hp} : ∀ is : List Int, RL K F (is.map D.int) (is.map V.int)
  | [] => RL.nil
  | i :: is => RL.cons (by unfold R; rfl) (RL.ofInts is)
theorem RL.bls {F : Hp} : ∀ {ds : List D} {vs : List V} {is : List Bool}, RL K F ds vs → asBls ds = some is → vs = is.map V.bl
  | [], _, is, h, e => by unfold RL at h; subst h; unfold asBls at e; cases e; rfl
  | d :: ds, _, is, h, e => by
    unfold RL at h
    obtain ⟨v, r, rfl, h1, h2⟩ := h
    cases d with
    | bl i =>
      simp only [asBls] at e
      split at e
      · cases e
      · rename_i is' e'
        cases e
        unfold R at h1
        rw [RL.bls h2 e', h1]; rfl
    | _ => simp only [asBls] at e; cases e
theorem RL.strs {F : Hp} : ∀ {ds : List D} {vs : List V} {is : List (List Nat)}, RL K F ds vs → asStrs ds = some is → vs = (is.map fun s => (⟨s.toArray⟩ : Str)).map V.str ∧ ∀ s ∈ is, okS s = true
  | [], _, is, h, e => by unfold RL at h; subst h; unfold asStrs at e; cases e; exact ⟨rfl, fun s h => by cases h⟩
  | d :: ds, _, is, h, e => by
    unfold RL at h
    obtain ⟨v, r, rfl, h1, h2⟩ := h
    cases d with
    | str i =>
      simp only [asStrs] at e
      split at e
      · cases e
      · rename_i is' e'
        cases e
        unfold R at h1
        obtain ⟨q1, q2⟩ := RL.strs h2 e'
        refine ⟨by rw [q1, h1.1]; rfl, fun s hs => ?_⟩
        rcases List.mem_cons.mp hs with rfl | hs
        · exact h1.2
        · exact q2 s hs
    | _ => simp only [asStrs] at e; cases e

def rAddV (K : PySem.W.Frag) : R2 := fun x y H Q => (∃ i j, x = .int i ∧ y = .int j ∧ Q (.int (i + j)) H) ∨ ((∃ i j, x = .str i ∧ y = .str j ∧ i.length + j.length ≤ sizeLine ∧ Q (.str (i ++ j)) H) ∨ (rCat x y H Q ∨ rCatA K x y H Q))
theorem op_addV : OpR X (binaryOp .Add) (rAddV X.K) := OpR.or op_add (OpR.or op_add_str (OpR.or op_cat op_catA))
theorem okS_append {a b : List Nat} (ha : okS a = true) (hb : okS b = true) (h : a.length + b.length ≤ 16777216) : okS (a ++ b) = true := by
  unfold okS at *
  simp only [Bool.and_eq_true, decide_eq_true_eq, List.length_append, List.all_append] at *
  exact ⟨h, ha.2, hb.2⟩
theorem str_app (a b : List Nat) : (⟨a.toArray⟩ : Str) ++ ⟨b.toArray⟩ = ⟨(a ++ b).toArray⟩ := by
  show Str.append _ _ = _
  unfold Str.append
  simp
theorem str_len (a : List Nat) : (⟨a.toArray⟩ : Str).length = a.length := by unfold Str.length; simp
theorem opd_add : OpD K (rAddV K) dAdd := by
  intro F H x y c d res Q s hc hd e
  unfold dAdd at e
  split at e
  · cases e
    exact ⟨fun i q => (nomatch q), fun q => .inl ⟨_, _, hc.int, hd.int, q.1 _ (by unfold R; rfl)⟩⟩
  · rename_i a b
    split at e
    · rename_i hl
      cases e
      obtain ⟨e1, o1⟩ := hc.str
      obtain ⟨e2, o2⟩ := hd.str
      refine ⟨fun i q => (nomatch q), fun q => .inr (.inl ⟨_, _, e1, e2, by rw [str_len, str_len, sizeLine_eq]; exact hl, q.1 _ (by unfold R; exact ⟨by rw [str_app], okS_append o1 o2 hl⟩)⟩)⟩
    · cases e
  · rename_i a b
    split at e
    · rename_i hl
      cases e
      obtain ⟨p, xs, rfl, h1, h2⟩ := hc.lst s
      obtain ⟨p', ys, rfl, h3, h4⟩ := hd.lst s
      refine ⟨fun i q => (nomatch q), fun q => .inr (.inr (.inl ⟨p, p', xs, ys, rfl, rfl, h1, h3, ?_, fun r hr => q r _ hr (RL.append h2 h4)⟩))⟩
      rw [← RL.length _ _ h2, ← RL.length _ _ h4, sizeLine_eq]; exact hl
    · cases e
  · rename_i a b
    split at e
    · rename_i hl
      cases e
      have hc' := hc
      have hd' := hd
      obtain ⟨p, xs, rfl, h1, h2⟩ := hc.tup s
      obtain ⟨p', ys, rfl, h3, h4⟩ := hd.tup s
      have l1 := RL.length _ _ h2
      have l2 := RL.length _ _ h4
      refine ⟨fun i q => (nomatch q), fun q => .inr (.inr (.inr ⟨p, p', xs, ys, rfl, rfl, h1, h3, ?_, fun hx => q.1 _ ?_, fun hx hy => q.1 _ ?_, fun hx hy r hr => q.2 _ r _ rfl hr (RL.append h2 h4)⟩))⟩
      · rw [← l1, ← l2, sizeLine_eq]; exact hl
      · subst hx
        have : a = [] := by cases a <;> simp_all
        subst this
        exact hd'.scal (by intro _ q; cases q) (by intro _ _ q; cases q)
      · subst hy
        have : b = [] := by cases b <;> simp_all
        subst this
        rw [List.append_nil]
        exact hc'.scal (by intro _ q; cases q) (by intro _ _ q; cases q)
    · cases e
  · cases e
theorem opd_sub : OpD K (rI0 fun i j => .int (i - j)) dSub := by
  intro F H x y c d res Q s hc hd e
  unfold dSub at e
  split at e
  · cases e
    exact ⟨fun i q => (nomatch q), fun q => ⟨_, _, hc.int, hd.int, q.1 _ (by unfold R; rfl)⟩⟩
  · cases e
def rMulV : R2 := fun x y H Q => L2.rI CMul (fun i j => .int (i * j)) x y H Q ∨ (L2.rI CMulW (fun i j => .int (i * j)) x y H Q ∨ rRep x y H Q)
theorem op_mulV : OpR X (binaryOp .Mult) rMulV := OpR.or op_mul (OpR.or op_mulW op_rep)
theorem RL.flatRep {F : Hp} {ds : List D} {vs : List V} (h : RL K F ds vs) : ∀ n : Nat, RL K F (List.replicate n ds).flatten (List.replicate n vs).flatten
  | 0 => RL.nil
  | n + 1 => by rw [List.replicate_succ, List.replicate_succ, List.flatten_cons, List.flatten_cons]; exact RL.append h (RL.flatRep h n)
theorem opd_mul : OpD K rMulV dMul := by
  intro F H x y c d res Q s hc hd e
  unfold dMul at e
  split at e
  · rename_i a b
    split at e
    · rename_i hm
      cases e
      refine ⟨fun i q => (nomatch q), fun q => ?_⟩
      have e1 := hc.int
      have e2 := hd.int
      unfold mulOk at hm
      simp only [Bool.or_eq_true, decide_eq_true_eq] at hm
      rcases hm with (hm | hm) | hm
      · exact .inl ⟨_, _, e1, e2, .inl (by omega), q.1 _ (by unfold R; rfl)⟩
      · exact .inl ⟨_, _, e1, e2, .inr (by omega), q.1 _ (by unfold R; rfl)⟩
      · exact .inr (.inl ⟨_, _, e1, e2, hm, q.1 _ (by unfold R; rfl)⟩)
    · cases e
  · rename_i a k
    split at e
    · rename_i hm
      cases e
      obtain ⟨p, xs, rfl, h1, h2⟩ := hc.lst s
      refine ⟨fun i q => (nomatch q), fun q => .inr (.inr ⟨p, k, xs, rfl, hd.int, h1, by have := hm.1; omega, by have := hm.1; omega, ?_, fun r hr => q r _ hr (RL.flatRep h2 _)⟩)⟩
      rw [← RL.length _ _ h2, sizeLine_eq]; exact hm.2
    · cases e
  · cases e
theorem opd_div : OpD K (L2.rI CDivW fun i j => .int (i / j)) dDiv := by
  intro F H x y c d res Q s hc hd e
  unfold dDiv at e
  split at e
  · split at e
    · rename_i h
      cases e
      exact ⟨fun i q => (nomatch q), fun q => ⟨_, _, hc.int, hd.int, h, q.1 _ (by unfold R; rfl)⟩⟩
    · cases e
  · cases e
theorem opd_mod : OpD K (L2.rI (fun _ j => 0 < j) fun i j => .int (i % j)) dMod := by
  intro F H x y c d res Q s hc hd e
  unfold dMod at e
  split at e
  · split at e
    · rename_i h
      cases e
      exact ⟨fun i q => (nomatch q), fun q => ⟨_, _, hc.int, hd.int, h, q.1 _ (by unfold R; rfl)⟩⟩
    · cases e
  · cases e
theorem opd_pow : OpD K (L2.rI CPow fun i j => .int (i ^ j.toNat)) dPow := by
  intro F H x y c d res Q s hc hd e
  unfold dPow at e
  split at e
  · split at e
    · rename_i h
      cases e
      exact ⟨fun i q => (nomatch q), fun q => ⟨_, _, hc.int, hd.int, h, q.1 _ (by unfold R; rfl)⟩⟩
    · cases e
  · cases e
theorem und_neg : UnD K (rU fun i => .int (-i)) dNeg := by
  intro F H x c res Q s hc e
  unfold dNeg at e
  split at e
  · cases e
    exact ⟨fun i q => (nomatch q), fun q => ⟨_, hc.int, q.1 _ (by unfold R; rfl)⟩⟩
  · cases e
end
end PV
end

section
set_option maxRecDepth 100000
namespace PV
open PySem PySem.Spec PyProof.Rows L2
variable [CodeTabs]

/-! ### comparisons -/
section
variable {K : PySem.W.Frag} {X : Cx}
theorem lexLt_eq : ∀ a b : List Int, HT.lexLt a b = PV.lexLt a b
  | [], [] => rfl
  | [], _ :: _ => rfl
  | _ :: _, [] => rfl
  | x :: xs, y :: ys => by rw [HT.lexLt_cons, PV.lexLt, lexLt_eq xs ys]
def rLtV (K : PySem.W.Frag) : R2 := fun x y H Q => rI0 (fun i j => .bl (decide (i < j))) x y H Q ∨ rLtT K x y H Q
theorem op_ltV (hu : X.A.units < cLine) : OpR X (compareOp .Lt) (rLtV X.K) := OpR.or op_lt (op_ltT hu)
theorem opd_lt : OpD K (rLtV K) dLt := by
  intro F H x y c d res Q s hc hd e
  unfold dLt at e
  split at e
  · cases e
    exact ⟨fun i q => (nomatch q), fun q => .inl ⟨_, _, hc.int, hd.int, q.1 _ (by unfold R; rfl)⟩⟩
  · rename_i a b
    split at e
    · rename_i u v eu ev
      cases e
      obtain ⟨p, xs, rfl, h1, h2⟩ := hc.tup s
      obtain ⟨p', ys, rfl, h3, h4⟩ := hd.tup s
      rw [RL.ints h2 eu] at h1
      rw [RL.ints h4 ev] at h3
      exact ⟨fun i q => (nomatch q), fun q => .inr ⟨p, p', u, v, rfl, rfl, h1, h3, q.1 _ (by unfold R; rw [lexLt_eq])⟩⟩
    · cases e
  · cases e
theorem opd_le : OpD K (rI0 fun i j => .bl (decide (i ≤ j))) dLe := by
  intro F H x y c d res Q s hc hd e
  unfold dLe at e
  split at e
  · cases e
    exact ⟨fun i q => (nomatch q), fun q => ⟨_, _, hc.int, hd.int, q.1 _ (by unfold R; rfl)⟩⟩
  · cases e
theorem opd_gt : OpD K (rI0 fun i j => .bl (decide (j < i))) dGt := by
  intro F H x y c d res Q s hc hd e
  unfold dGt at e
  split at e
  · cases e
    exact ⟨fun i q => (nomatch q), fun q => ⟨_, _, hc.int, hd.int, q.1 _ (by unfold R; rfl)⟩⟩
  · cases e
def rGeT (K : PySem.W.Frag) : R2 := fun x y H Q => ∃ (a b : Addr) (ns ms : List Int), x = .ref a ∧ y = .ref b ∧ SqT K H a (ns.map V.int) ∧ SqT K H b (ms.map V.int) ∧ Q (.bl (!PV.lexLt ns ms)) H
theorem lexAt_ge : ∀ (ns ms : List Int) (k : Nat) (ps : List Int) (qs : List Int) (i : Nat), ps.length = i → qs.length = i → min ns.length ms.length = k → Ob.lexAt (fun j => decide ((ps ++ ns).getD j 0 = (qs ++ ms).getD j 0)) (fun j => decide ((qs ++ ms).getD j 0 ≤ (ps ++ ns).getD j 0)) (decide (ms.length ≤ ns.length)) i k = !PV.lexLt ns ms
  | [], ms, k, ps, qs, i, h1, h2, h3 => by
    have : k = 0 := by simp at h3; omega
    subst this
    cases ms <;> simp [Ob.lexAt, PV.lexLt]
  | n :: ns, [], k, ps, qs, i, h1, h2, h3 => by
    have : k = 0 := by simp at h3; omega
    subst this
    simp [Ob.lexAt, PV.lexLt]
  | n :: ns, m :: ms, k, ps, qs, i, h1, h2, h3 => by
    obtain ⟨k', rfl⟩ : ∃ k', k = k' + 1 := ⟨min ns.length ms.length, by rw [← h3]; simp only [List.length_cons]; omega⟩
    have g1 : (ps ++ n :: ns).getD i 0 = n := by rw [List.getD_eq_getElem?_getD, List.getElem?_append_right (by omega)]; simp [h1]
    have g2 : (qs ++ m :: ms).getD i 0 = m := by rw [List.getD_eq_getElem?_getD, List.getElem?_append_right (by omega)]; simp [h2]
    rw [Ob.lexAt_succ, g1, g2]
    have ih := lexAt_ge ns ms k' (ps ++ [n]) (qs ++ [m]) (i + 1) (by simp [h1]) (by simp [h2]) (by simp only [List.length_cons] at h3; omega)
    rw [List.append_assoc, List.append_assoc] at ih
    simp only [List.singleton_append] at ih
    have el : (decide ((m :: ms).length ≤ (n :: ns).length)) = decide (ms.length ≤ ns.length) := by simp
    rw [el, ih]
    simp only [PV.lexLt]
    by_cases e : n = m
    · simp [e]
    · simp only [e, decide_false, Bool.false_eq_true, if_false]
      by_cases l : n < m
      · simp [l, Int.not_le.mpr l]
      · simp [l, Int.not_lt.mp l]
theorem op_geT (hu : X.A.units < cLine) : OpR X (compareOp .GtE) (rGeT X.K) := by
  intro pins s σ H x y v u Q I rx ry h
  obtain ⟨a, b, ns, ms, rfl, rfl, ha, hb, q⟩ := h
  cases rx
  cases ry
  obtain ⟨its, r1, p1, _⟩ := I.tuple ha
  obtain ⟨its2, r2, p2, _⟩ := I.tuple hb
  have i1 : IntsAre its ns := Vals.ints r1
  have i2 : IntsAre its2 ms := Vals.ints r2
  have e1 : its.toArray.size = ns.length := by rw [List.size_toArray]; exact i1.length
  have e2 : its2.toArray.size = ms.length := by rw [List.size_toArray]; exact i2.length
  have at1 : ∀ j (h1 : j < its.toArray.size), ∃ t, its.toArray[j] = .int (ns.getD j 0) t := fun j h1 => PyProof.Rows.IntsAre.int_at i1 _ _ (by simp at h1; simp [h1])
  have at2 : ∀ j (h1 : j < its2.toArray.size), ∃ t, its2.toArray[j] = .int (ms.getD j 0) t := fun j h1 => PyProof.Rows.IntsAre.int_at i2 _ _ (by simp at h1; simp [h1])
  have R := Ob.RcOp.tuples_ge (A := X.A) (s := s) (e := fun j => decide (ns.getD j 0 = ms.getD j 0)) (r := fun j => decide (ms.getD j 0 ≤ ns.getD j 0)) p1 p2 hu (fun j h1 h2 => by
    obtain ⟨t, et⟩ := at1 j h1
    obtain ⟨t', et'⟩ := at2 j h2
    rw [et, et']
    have z : (ns.getD j 0 == ms.getD j 0) = decide (ns.getD j 0 = ms.getD j 0) := by
      by_cases q : ns.getD j 0 = ms.getD j 0
      · rw [decide_eq_true q]; exact beq_iff_eq.mpr q
      · rw [decide_eq_false q]; exact beq_eq_false_iff_ne.mpr q
    rw [← z]
    exact SeqAt.EqAt.int_int _ _ _ _) (fun j h1 h2 _ => by
    obtain ⟨t, et⟩ := at1 j h1
    obtain ⟨t', et'⟩ := at2 j h2
    rw [et, et']
    exact Ob.RcOp.ge_int _ _ _ _)
  rw [e1, e2] at R
  have g := lexAt_ge ns ms (min ns.length ms.length) [] [] 0 rfl rfl rfl
  simp only [List.nil_append] at g
  refine R X.prog X.w X.xe (EP X pins σ Q) ⟨.bl _, H, I, rfl, ?_⟩
  have z : Ob.lexAt (fun j => decide (ns.getD j 0 = ms.getD j 0)) (fun j => decide (ms.getD j 0 ≤ ns.getD j 0)) (decide (ns.length ≥ ms.length)) 0 (min ns.length ms.length) = !PV.lexLt ns ms := g
  rw [z]
  exact q
def rGeV (K : PySem.W.Frag) : R2 := fun x y H Q => rI0 (fun i j => .bl (decide (j ≤ i))) x y H Q ∨ rGeT K x y H Q
theorem op_geV (hu : X.A.units < cLine) : OpR X (compareOp .GtE) (rGeV X.K) := OpR.or op_ge (op_geT hu)
theorem opd_ge : OpD K (rGeV K) dGe := by
  intro F H x y c d res Q s hc hd e
  unfold dGe at e
  split at e
  · cases e
    exact ⟨fun i q => (nomatch q), fun q => .inl ⟨_, _, hc.int, hd.int, q.1 _ (by unfold R; rfl)⟩⟩
  · rename_i a b
    split at e
    · rename_i u v eu ev
      cases e
      obtain ⟨p, xs, rfl, h1, h2⟩ := hc.tup s
      obtain ⟨p', ys, rfl, h3, h4⟩ := hd.tup s
      rw [RL.ints h2 eu] at h1
      rw [RL.ints h4 ev] at h3
      exact ⟨fun i q => (nomatch q), fun q => .inr ⟨p, p', u, v, rfl, rfl, h1, h3, q.1 _ (by unfold R; rfl)⟩⟩
    · cases e
  · cases e
theorem PVal.isNon {F H : Hp} {d : D} {v : V} (h : PVal K F H d v) : decide (v = .non) = PV.isNon d := by
  rcases h with h | ⟨a, ho, rfl, _, o⟩
  · cases d with
    | non => unfold R at h; subst h; rfl
    | bl b => unfold R at h; subst h; rfl
    | int b => unfold R at h; subst h; rfl
    | str b => unfold R at h; obtain ⟨rfl, _⟩ := h; rfl
    | lst b => unfold R at h; obtain ⟨a, vs, rfl, _⟩ := h; rfl
    | tup b => unfold R at h; obtain ⟨a, vs, rfl, _⟩ := h; rfl
    | dic b c => unfold R at h; obtain ⟨a, rfl, _⟩ := h; rfl
    | scr b => unfold R at h; obtain ⟨a, rfl, _⟩ := h; rfl
  · cases d with
    | non => cases ho <;> exact o.elim
    | _ => rfl
theorem isNon_eq {d : D} (h : PV.isNon d = true) : d = .non := by cases d <;> first | rfl | cases h
theorem opd_isN : OpD K (fun x y H Q => y = .non ∧ Q (.bl (decide (x = .non))) H) dIsN := by
  intro F H x y c d res Q s hc hd e
  unfold dIsN at e
  split at e
  · rename_i h
    cases e
    cases isNon_eq h
    exact ⟨fun i q => (nomatch q), fun q => ⟨hd.non, by rw [hc.isNon]; exact q.1 _ (by unfold R; rfl)⟩⟩
  · cases e
theorem opd_notN : OpD K (fun x y H Q => y = .non ∧ Q (.bl (!decide (x = .non))) H) dNotN := by
  intro F H x y c d res Q s hc hd e
  unfold dNotN at e
  split at e
  · rename_i h
    cases e
    cases isNon_eq h
    exact ⟨fun i q => (nomatch q), fun q => ⟨hd.non, by rw [hc.isNon]; exact q.1 _ (by unfold R; rfl)⟩⟩
  · cases e

/-! ### items, slices -/
theorem ixOf_eq (n : Nat) (i : Int) : ixN n i = ixOf n i := rfl
theorem atI_eq {α : Type} (xs : List α) (i : Int) : atI xs i = getAt xs i := rfl
theorem getAt_len {α β : Type} {xs : List α} {ys : List β} (h : xs.length = ys.length) {i : Int} {d : α} (e : getAt xs i = some d) : ∃ j : Nat, ixOf ys.length i = some j ∧ xs[j]? = some d := by
  unfold getAt at e
  rw [h] at e
  cases q : ixOf ys.length i with
  | none => rw [q] at e; cases e
  | some j => rw [q] at e; exact ⟨j, rfl, e⟩
theorem getAt_of {α : Type} {ys : List α} {i : Int} {j : Nat} {v : α} (h : ixOf ys.length i = some j) (e : ys[j]? = some v) : getAt ys i = some v := by
  unfold getAt; rw [h]; exact e
theorem opd_idx : OpD K (rIx K) dIdx := by
  intro F H x y c d res Q s hc hd e
  unfold dIdx at e
  split at e
  · split at e
    · rename_i ds i _ dd eg
      cases e
      obtain ⟨p, xs, rfl, h1, h2⟩ := hc.lst s
      obtain ⟨j, e1, e2⟩ := getAt_len (RL.length _ _ h2) eg
      obtain ⟨v, e3, h3⟩ := RL.get h2 e2
      exact ⟨fun i q => (nomatch q), fun q => .inl ⟨p, xs, i, v, rfl, hd.int, SqL.of h1, getAt_of e1 e3, q.1 _ h3⟩⟩
    · cases e
  · split at e
    · rename_i ds i _ dd eg
      cases e
      obtain ⟨p, xs, rfl, h1, h2⟩ := hc.tup s
      obtain ⟨j, e1, e2⟩ := getAt_len (RL.length _ _ h2) eg
      obtain ⟨v, e3, h3⟩ := RL.get h2 e2
      exact ⟨fun i q => (nomatch q), fun q => .inr (.inl ⟨p, xs, i, v, rfl, hd.int, h1, getAt_of e1 e3, q.1 _ h3⟩)⟩
    · cases e
  · split at e
    · rename_i ds i _ dd eg
      cases e
      obtain ⟨e1, e2⟩ := hc.str
      have hm : dd ∈ ds := by
        unfold getAt at eg
        cases q : ixOf ds.length i with
        | none => rw [q] at eg; cases eg
        | some j => rw [q] at eg; exact List.mem_of_getElem? eg
      refine ⟨fun i q => (nomatch q), fun q => .inr (.inr ⟨_, i, dd, e1, hd.int, by rw [str_len, sizeLine_eq]; exact okS_len e2, eg, q.1 _ ?_⟩)⟩
      unfold R
      refine ⟨rfl, ?_⟩
      unfold okS at e2 ⊢
      simp only [Bool.and_eq_true] at e2
      have := List.all_eq_true.mp e2.2 dd hm
      simpa using this
    · cases e
  · cases e
theorem cutIx_eq (n d : Nat) (o : Option Int) : HT.sIx n d o = cutIx n d o := by
  cases o with
  | none => rfl
  | some v => rfl
theorem cutV_eq (xs : List V) (lo hi : Option Int) : cutV xs lo hi = PV.cut xs lo hi := by
  unfold cutV PV.cut
  rw [cutIx_eq, cutIx_eq]
theorem RL.cut {F : Hp} {ds : List D} {vs : List V} (h : RL K F ds vs) (lo hi : Option Int) : RL K F (PV.cut ds lo hi) (PV.cut vs lo hi) := by
  unfold PV.cut
  rw [RL.length _ _ h]
  exact RL.take _ (RL.drop _ h)
def SlD (K : PySem.W.Frag) (r : V → Option Int → Option Int → Hp → VK → Prop) : Prop :=
  ∀ (F H : Hp) (x : V) (c : D) (lo hi : Option Int) (res : RV) (Q : VK), Same F H → PVal K F H c x → dCut c lo hi = some res → (∀ i, res ≠ .bor i) ∧ (ResQ K F H res Q → r x lo hi H Q)
def rSlV (K : PySem.W.Frag) : V → Option Int → Option Int → Hp → VK → Prop := fun x lo hi H Q => rSlL K x lo hi H Q ∨ (rSlA K x lo hi H Q ∨ rSlS x lo hi H Q)
theorem sl_V : SlR X (rSlV X.K) := SlR.or sl_list (SlR.or sl_tupA sl_str)
theorem cutS_eq (s : List Nat) (lo hi : Option Int) : cutS ⟨s.toArray⟩ lo hi = ⟨(PV.cut s lo hi).toArray⟩ := by
  unfold cutS PV.cut
  have e : (⟨s.toArray⟩ : Str).length = s.length := str_len s
  rw [e, cutIx_eq, cutIx_eq]
theorem okS_cut {s : List Nat} (h : okS s = true) (lo hi : Option Int) : okS (PV.cut s lo hi) = true := by
  unfold okS at *
  simp only [Bool.and_eq_true, decide_eq_true_eq, List.all_eq_true] at *
  refine ⟨?_, fun c hc => h.2 c ?_⟩
  · unfold PV.cut; rw [List.length_take, List.length_drop]; omega
  · unfold PV.cut at hc; exact List.mem_of_mem_drop (List.mem_of_mem_take hc)
theorem sld_V : SlD K (rSlV K) := by
  intro F H x c lo hi res Q s hc e
  cases c with
  | lst ds =>
    simp only [dCut] at e
    cases e
    obtain ⟨p, xs, rfl, h1, h2⟩ := hc.lst s
    exact ⟨fun i q => (nomatch q), fun q => .inl ⟨p, xs, rfl, SqL.of h1, fun r hr => by rw [cutV_eq]; exact q r _ hr (RL.cut h2 lo hi)⟩⟩
  | tup ds =>
    simp only [dCut] at e
    cases e
    have hc' := hc.scal (by intro _ q; cases q) (by intro _ _ q; cases q)
    obtain ⟨p, xs, rfl, h1, h2⟩ := hc.tup s
    refine ⟨fun i q => (nomatch q), fun q => .inr (.inl ⟨p, xs, rfl, h1, fun hw => q.1 _ ?_, fun _ r hr => by rw [cutV_eq]; exact q.2 _ r _ rfl hr (RL.cut h2 lo hi)⟩)⟩
    have l := RL.length _ _ h2
    have : PV.cut ds lo hi = ds := by
      unfold PV.cut
      rw [l]
      have e1 : cutIx xs.length 0 lo = 0 := by rw [← cutIx_eq]; exact hw.1
      have e2 : cutIx xs.length xs.length hi = xs.length := by rw [← cutIx_eq]; exact hw.2
      rw [e1, e2, List.drop_zero, Nat.sub_zero, ← l, List.take_length]
    rw [this]
    exact hc'
  | str ds =>
    simp only [dCut] at e
    cases e
    obtain ⟨e1, e2⟩ := hc.str
    refine ⟨fun i q => (nomatch q), fun q => .inr (.inr ⟨_, e1, by rw [str_len, sizeLine_eq]; exact okS_len e2, q.1 _ ?_⟩)⟩
    unfold R
    exact ⟨by rw [cutS_eq], okS_cut e2 _ _⟩
  | _ => simp only [dCut] at e; cases e
end
/-- a slice's part -/
def rP (K : PySem.W.Frag) (φ : Act) (f : EPart) : TO := fun σ H Q => ∃ F env o env', Rel K φ F env σ H ∧ f env = some (o, env') ∧ ∀ F' H', Same F F' → Rel K φ F' env' σ H' → Q o H'
structure OX (X : Cx) (Γ : Hp → Option Ea → Prop) (e : Option Expr) (f : EPart) : Prop where
  at' : ∀ φ : Act, Γ φ.F φ.ea → PO X e (rP X.K φ f)
theorem PO.weak {X : Cx} {e : Option Expr} {t t' : TO} (h : PO X e t) (w : ∀ σ H Q, t' σ H Q → t σ H Q) : PO X e t' := by
  obtain ⟨h⟩ := h
  exact ⟨fun pins s σ H Q I q => h pins s σ H Q I (w _ _ _ q)⟩
section
variable {X : Cx} {Γ : Hp → Option Ea → Prop} {a : Expr} {f : E} {lo hi : Option Expr} {fl fh : EPart} {p2 pos : Pos}
theorem ox_no : OX X Γ none pNo := ⟨fun φ hφ => PO.weak po_none fun σ H Q ⟨F, env, o, env', r0, e, k⟩ => by cases e; exact k F H (.refl _) r0⟩
theorem ox_at (h : EX X Γ a f) : OX X Γ (some a) (pAt f) := ⟨fun φ hφ => PO.weak (po_some (h.at' φ hφ)) fun σ H Q ⟨F, env, o, env', r0, e, k⟩ => by
  unfold pAt at e
  split at e
  · cases e
  · rename_i r env1 ea
    split at e
    · rename_i i ep
      cases e
      exact ⟨F, env, r, _, r0, ea, fun F1 H1 v s1 r1 h1 => ⟨i, (r1.peek h1 ep).int, k F1 H1 s1 r1⟩⟩
    · cases e⟩
theorem ex_cut (ha : EX X Γ a f) (hl : OX X Γ lo fl) (hh : OX X Γ hi fh) : EX X Γ (.Subscript a (.Slice lo hi none p2) pos) (eCut f fl fh) :=
  ⟨fun φ hφ => PE.weak (pe_slice sl_V (ha.at' φ hφ) (hl.at' φ hφ) (hh.at' φ hφ)) fun σ H Q ⟨F, env, q, env', r0, e, k⟩ => by
    unfold eCut at e
    split at e
    · cases e
    · rename_i ra env1 ea
      refine ⟨F, env, ra, env1, r0, ea, fun F1 H1 x s1 r1 h1 => ?_⟩
      obtain ⟨F1', s1', r1', h1'⟩ := r1.settle h1
      split at e
      · cases e
      · rename_i l env2 el
        refine ⟨F1', env1, l, env2, r1', el, fun F2 H2 s2 r2 => ?_⟩
        split at e
        · cases e
        · rename_i h env3 eh
          refine ⟨F2, env2, h, env3, r2, eh, fun F3 H3 s3 r3 => ?_⟩
          split at e
          · cases e
          · rename_i c ec
            split at e
            · cases e
            · rename_i res er
              cases e
              have hx : PVal X.K F3 H3 c x := by
                cases ra with
                | fz dd => exact r3.peek (q := .fz dd) (R.mono (s2.trans s3) _ _ h1') ec
                | own dd => exact r3.peek (q := .fz dd) (R.mono (s2.trans s3) _ _ h1') ec
                | bor i => exact r3.peek (q := .bor i) h1' ec
                | tre dd =>
                  simp only [RV.settle, RV.peek, Option.some.injEq] at ec; subst ec
                  exact .inl (R.mono (s2.trans s3) _ _ h1')
              obtain ⟨nb, go⟩ := sld_V F3 H3 x c l h _ Q r3.sub hx er
              exact go (resQ r3 nb fun F4 H4 v s4 r4 h4 => k F4 H4 v (s1.trans (s1'.trans (s2.trans (s3.trans s4)))) r4 h4)⟩
theorem ex_rev {k : Nat} {p1 p3 : Pos} (ha : EX X Γ a f) : EX X Γ (.Subscript a (.Slice none none (some (.UnaryOp .USub (.Constant (.int 1) k p1) p2)) p3) pos) (eUn dRev f) :=
  ⟨fun φ hφ => PE.weak (pe_revL (ha.at' φ hφ)) fun σ H Q h => by
    have := rE_un (K := X.K) (φ := φ) (r := fun x H Q => ∃ a xs, x = .ref a ∧ SqL X.K H a xs ∧ ∀ p, H p = none → Q (.ref p) (upd H p (.lst xs.reverse))) (fo := dRev) (f := f) (σ := σ) (H := H) (Q := Q) (by
      intro F H x c res Q s hc e
      unfold dRev at e
      split at e
      · cases e
        obtain ⟨p, xs, rfl, h1, h2⟩ := hc.lst s
        exact ⟨fun i q => (nomatch q), fun q => ⟨p, xs, rfl, SqL.of h1, fun r hr => q r _ hr (RL.reverse h2)⟩⟩
      · cases e) h
    exact this⟩
end
end PV
end

section
set_option maxRecDepth 100000
namespace PV
open PySem PySem.Spec PyProof.Rows L2
variable [CodeTabs]

section
variable {K : PySem.W.Frag} {X : Cx}
/-! ### in -/
def rInV (K : PySem.W.Frag) : R2 := fun x y H Q => rInD K x y H Q ∨ (rIn K false x y H Q ∨ (∃ (c : Nat) (z : Str), x = .str ⟨#[c]⟩ ∧ y = .str z ∧ Q (.bl (decide (c ∈ z.cps.toList))) H))
def rNotInV (K : PySem.W.Frag) : R2 := fun x y H Q => rNotInD K x y H Q ∨ (rIn K true x y H Q ∨ (∃ (c : Nat) (z : Str), x = .str ⟨#[c]⟩ ∧ y = .str z ∧ Q (.bl (!decide (c ∈ z.cps.toList))) H))
theorem op_inV (hu : X.A.units + 65 < cLine) : OpR X (compareOp .In) (rInV X.K) := OpR.or (op_inD hu) (OpR.or op_in_seq op_in_sign)
theorem op_notInV (hu : X.A.units + 65 < cLine) : OpR X (compareOp .NotIn) (rNotInV X.K) := OpR.or (op_notInD hu) (OpR.or op_notIn_seq op_notIn_sign)
theorem any_py {x : D} (hx : x.shal 40 = true) : ∀ {ys : List D}, shalL 39 ys = true → ((pyL ys).any fun z => PyData.eqv z x.py) = ys.any fun y => y.eqv x
  | [], _ => rfl
  | y :: ys, h => by
    simp only [shalL, Bool.and_eq_true] at h
    simp only [pyL, List.any_cons]
    rw [eqv_py 39 40 y x h.1 hx, any_py hx h.2]
theorem flat_of {F : Hp} {d : D} {v : V} (hs : d.scal = true) (h : R K F d v) : flatV v = true := by
  cases d with
  | non => unfold R at h; subst h; rfl
  | bl _ => unfold R at h; subst h; rfl
  | int _ => unfold R at h; subst h; rfl
  | str _ => unfold R at h; obtain ⟨rfl, _⟩ := h; rfl
  | _ => cases hs
theorem eqV_of {F : Hp} {d e : D} {v w : V} (hs : d.scal = true) (hs' : e.scal = true) (h : R K F d v) (h' : R K F e w) : eqV v w = d.eqv e := by
  cases d with
  | non =>
    unfold R at h; subst h
    cases e with
    | non => unfold R at h'; subst h'; simp [eqV, D.eqv]
    | bl _ => unfold R at h'; subst h'; simp [eqV, D.eqv]
    | int _ => unfold R at h'; subst h'; simp [eqV, D.eqv]
    | str _ => unfold R at h'; obtain ⟨rfl, _⟩ := h'; simp [eqV, D.eqv]
    | _ => cases hs'
  | bl _ =>
    unfold R at h; subst h
    cases e with
    | non => unfold R at h'; subst h'; simp [eqV, D.eqv]
    | bl _ => unfold R at h'; subst h'; simp [eqV, D.eqv]
    | int _ => unfold R at h'; subst h'; simp [eqV, D.eqv]
    | str _ => unfold R at h'; obtain ⟨rfl, _⟩ := h'; simp [eqV, D.eqv]
    | _ => cases hs'
  | int _ =>
    unfold R at h; subst h
    cases e with
    | non => unfold R at h'; subst h'; simp [eqV, D.eqv]
    | bl _ => unfold R at h'; subst h'; simp [eqV, D.eqv]
    | int _ => unfold R at h'; subst h'; simp [eqV, D.eqv]
    | str _ => unfold R at h'; obtain ⟨rfl, _⟩ := h'; simp [eqV, D.eqv]
    | _ => cases hs'
  | str x =>
    unfold R at h; obtain ⟨rfl, _⟩ := h
    cases e with
    | non => unfold R at h'; subst h'; simp [eqV, D.eqv]
    | bl _ => unfold R at h'; subst h'; simp [eqV, D.eqv]
    | int _ => unfold R at h'; subst h'; simp [eqV, D.eqv]
    | str y =>
      unfold R at h'; obtain ⟨rfl, _⟩ := h'
      simp only [D.eqv, ← str_eq]
      simp [eqV]
    | _ => cases hs'
  | _ => cases hs
theorem inV_of {F : Hp} {x : D} {v : V} (hx : x.scal = true) (h : R K F x v) : ∀ {ys : List D} {vs : List V}, ys.all D.scal = true → RL K F ys vs → inV v vs = (ys.any fun y => y.eqv x) ∧ vs.all flatV = true
  | [], _, _, h' => by unfold RL at h'; subst h'; exact ⟨rfl, rfl⟩
  | y :: ys, _, hs, h' => by
    unfold RL at h'
    obtain ⟨w, r, rfl, h1, h2⟩ := h'
    simp only [List.all_cons, Bool.and_eq_true] at hs
    obtain ⟨q1, q2⟩ := inV_of hx h hs.2 h2
    refine ⟨?_, by simp only [List.all_cons, flat_of hs.1 h1, q2, Bool.and_self]⟩
    unfold inV at q1 ⊢
    simp only [List.any_cons]
    rw [eqV_of hs.1 hx h1 h, q1]
theorem opd_in : OpD K (rInV K) dIn := by
  intro F H x y c d res Q s hc hd e
  unfold dIn at e
  split at e
  · rename_i b eb
    cases e
    refine ⟨fun i q => (nomatch q), fun q => ?_⟩
    unfold dInB at eb
    split at eb
    · rename_i ys
      split at eb
      · rename_i hh
        cases eb
        simp only [Bool.and_eq_true] at hh
        obtain ⟨p1, p2⟩ := hc.dp s hh.1
        obtain ⟨q1, q2⟩ := hd.dp (n := 40) (d := .lst ys) s hh.2
        exact .inl ⟨c.py, pyL ys, p1, q1, shaped_of (by decide) hh.1 p2, shaped_of (n := 40) (d := .lst ys) (by decide) hh.2 q2, by rw [any_py hh.1 hh.2]; exact q.1 _ (by unfold R; rfl)⟩
      · cases eb
    · rename_i ys
      split at eb
      · rename_i hh
        cases eb
        simp only [Bool.and_eq_true] at hh
        have hc' : R K F c x := hc.scal (by intro _ q; subst q; cases hh.1) (by intro _ _ q; subst q; cases hh.1)
        obtain ⟨p, xs, rfl, h1, h2⟩ := hd.tup s
        obtain ⟨q1, q2⟩ := inV_of hh.1 hc' hh.2 h2
        exact .inr (.inl ⟨p, xs, rfl, .inr h1, flat_of hh.1 hc', q2, by rw [if_neg Bool.false_ne_true, q1]; exact q.1 _ (by unfold R; rfl)⟩)
      · cases eb
    · rename_i ch st
      cases eb
      obtain ⟨e1, _⟩ := hc.str
      obtain ⟨e2, _⟩ := hd.str
      exact .inr (.inr ⟨ch, _, e1, e2, q.1 _ (by unfold R; simp)⟩)
    · cases eb
  · cases e
theorem opd_notIn : OpD K (rNotInV K) dNotIn := by
  intro F H x y c d res Q s hc hd e
  unfold dNotIn at e
  split at e
  · rename_i b eb
    cases e
    refine ⟨fun i q => (nomatch q), fun q => ?_⟩
    unfold dInB at eb
    split at eb
    · rename_i ys
      split at eb
      · rename_i hh
        cases eb
        simp only [Bool.and_eq_true] at hh
        obtain ⟨p1, p2⟩ := hc.dp s hh.1
        obtain ⟨q1, q2⟩ := hd.dp (n := 40) (d := .lst ys) s hh.2
        exact .inl ⟨c.py, pyL ys, p1, q1, shaped_of (by decide) hh.1 p2, shaped_of (n := 40) (d := .lst ys) (by decide) hh.2 q2, by rw [any_py hh.1 hh.2]; exact q.1 _ (by unfold R; rfl)⟩
      · cases eb
    · rename_i ys
      split at eb
      · rename_i hh
        cases eb
        simp only [Bool.and_eq_true] at hh
        have hc' : R K F c x := hc.scal (by intro _ q; subst q; cases hh.1) (by intro _ _ q; subst q; cases hh.1)
        obtain ⟨p, xs, rfl, h1, h2⟩ := hd.tup s
        obtain ⟨q1, q2⟩ := inV_of hh.1 hc' hh.2 h2
        exact .inr (.inl ⟨p, xs, rfl, .inr h1, flat_of hh.1 hc', q2, by rw [if_pos rfl, q1]; exact q.1 _ (by unfold R; rfl)⟩)
      · cases eb
    · rename_i ch st
      cases eb
      obtain ⟨e1, _⟩ := hc.str
      obtain ⟨e2, _⟩ := hd.str
      exact .inr (.inr ⟨ch, _, e1, e2, q.1 _ (by unfold R; simp)⟩)
    · cases eb
  · cases e

/-! ### built-ins -/
theorem PVals.nil' {F H : Hp} {vs : List V} (h : PVals K F H [] vs) : vs = [] := by cases h; rfl
theorem PVals.one {F H : Hp} {d : D} {vs : List V} (h : PVals K F H [d] vs) : ∃ v, vs = [v] ∧ PVal K F H d v := by
  cases h with
  | cons h1 h2 => cases h2; exact ⟨_, rfl, h1⟩
theorem PVals.two {F H : Hp} {d e : D} {vs : List V} (h : PVals K F H [d, e] vs) : ∃ v w, vs = [v, w] ∧ PVal K F H d v ∧ PVal K F H e w := by
  cases h with
  | cons h1 h2 => cases h2 with
    | cons h2 h3 => cases h3; exact ⟨_, _, rfl, h1, h2⟩
def rLenV (K : PySem.W.Frag) : List V → Hp → VK → Prop := fun xs H Q => (∃ p ys, xs = [.ref p] ∧ (SqL K H p ys ∨ SqT K H p ys) ∧ Q (.int ys.length) H) ∨ (∃ z, xs = [.str z] ∧ z.length ≤ sizeLine ∧ Q (.int z.length) H)
theorem call_lenV : CallR X (.builtin "len") (rLenV X.K) := CallR.or call_len_seq call_len_str
theorem cd_len : CallD K (rLenV K) dLen := by
  intro F H xs cs res Q s hc e
  unfold dLen at e
  split at e
  · cases e
    obtain ⟨v, rfl, hv⟩ := hc.one
    obtain ⟨p, vs, rfl, h1, h2⟩ := hv.lst s
    exact ⟨fun i q => (nomatch q), fun q => .inl ⟨p, vs, rfl, .inl (SqL.of h1), q.1 _ (by unfold R; rw [RL.length _ _ h2])⟩⟩
  · cases e
    obtain ⟨v, rfl, hv⟩ := hc.one
    obtain ⟨p, vs, rfl, h1, h2⟩ := hv.tup s
    exact ⟨fun i q => (nomatch q), fun q => .inl ⟨p, vs, rfl, .inr h1, q.1 _ (by unfold R; rw [RL.length _ _ h2])⟩⟩
  · cases e
    obtain ⟨v, rfl, hv⟩ := hc.one
    obtain ⟨e1, e2⟩ := hv.str
    exact ⟨fun i q => (nomatch q), fun q => .inr ⟨_, by rw [e1], by rw [str_len, sizeLine_eq]; exact okS_len e2, q.1 _ (by unfold R; rw [str_len])⟩⟩
  · cases e
    obtain ⟨v, rfl, hv⟩ := hc.one
    obtain ⟨p, rfl, h1⟩ := hv.scr s
    exact ⟨fun i q => (nomatch q), fun q => .inl ⟨p, _, rfl, .inl h1, q.1 _ (by unfold R; rw [List.length_map])⟩⟩
  · cases e
theorem cd_abs : CallD K (fun xs H Q => ∃ i, xs = [.int i] ∧ Q (.int (if i < 0 then -i else i)) H) dAbs := by
  intro F H xs cs res Q s hc e
  unfold dAbs at e
  split at e
  · cases e
    obtain ⟨v, rfl, hv⟩ := hc.one
    exact ⟨fun i q => (nomatch q), fun q => ⟨_, by rw [hv.int], q.1 _ (by unfold R; rfl)⟩⟩
  · cases e
theorem cd_int : CallD K (fun xs H Q => (∃ i, xs = [.int i] ∧ Q (.int i) H) ∨ ∃ k, xs = [.bl k] ∧ Q (.int (if k then 1 else 0)) H) dInt := by
  intro F H xs cs res Q s hc e
  unfold dInt at e
  split at e
  · cases e
    obtain ⟨v, rfl, hv⟩ := hc.one
    exact ⟨fun i q => (nomatch q), fun q => .inl ⟨_, by rw [hv.int], q.1 _ (by unfold R; rfl)⟩⟩
  · cases e
    obtain ⟨v, rfl, hv⟩ := hc.one
    exact ⟨fun i q => (nomatch q), fun q => .inr ⟨_, by rw [hv.bl], q.1 _ (by unfold R; rfl)⟩⟩
  · cases e
theorem cd_bool : CallD K (fun xs H Q => (∃ i, xs = [.int i] ∧ Q (.bl (i != 0)) H) ∨ ∃ k, xs = [.bl k] ∧ Q (.bl k) H) dBool := by
  intro F H xs cs res Q s hc e
  unfold dBool at e
  split at e
  · cases e
    obtain ⟨v, rfl, hv⟩ := hc.one
    exact ⟨fun i q => (nomatch q), fun q => .inl ⟨_, by rw [hv.int], q.1 _ (by unfold R; rfl)⟩⟩
  · cases e
    obtain ⟨v, rfl, hv⟩ := hc.one
    exact ⟨fun i q => (nomatch q), fun q => .inr ⟨_, by rw [hv.bl], q.1 _ (by unfold R; rfl)⟩⟩
  · cases e
theorem maxI_spec : ∀ (a : Int) (r : List Int), maxI (a :: r) ∈ a :: r ∧ ∀ y ∈ a :: r, y ≤ maxI (a :: r)
  | a, [] => ⟨by simp [maxI], by simp [maxI]⟩
  | a, b :: r => by
    obtain ⟨h1, h2⟩ := maxI_spec b r
    simp only [maxI]
    refine ⟨?_, fun y hy => ?_⟩
    · rcases Int.le_total a (maxI (b :: r)) with l | l
      · rw [Int.max_eq_right l]; exact List.mem_cons_of_mem _ h1
      · rw [Int.max_eq_left l]; exact List.mem_cons_self
    · rcases List.mem_cons.mp hy with rfl | hy
      · exact Int.le_max_left _ _
      · exact Int.le_trans (h2 y hy) (Int.le_max_right _ _)
theorem minI_spec : ∀ (a : Int) (r : List Int), minI (a :: r) ∈ a :: r ∧ ∀ y ∈ a :: r, minI (a :: r) ≤ y
  | a, [] => ⟨by simp [minI], by simp [minI]⟩
  | a, b :: r => by
    obtain ⟨h1, h2⟩ := minI_spec b r
    simp only [minI]
    refine ⟨?_, fun y hy => ?_⟩
    · rcases Int.le_total a (minI (b :: r)) with l | l
      · rw [Int.min_eq_left l]; exact List.mem_cons_self
      · rw [Int.min_eq_right l]; exact List.mem_cons_of_mem _ h1
    · rcases List.mem_cons.mp hy with rfl | hy
      · exact Int.min_le_left _ _
      · exact Int.le_trans (Int.min_le_right _ _) (h2 y hy)
def rMaxV (K : PySem.W.Frag) : List V → Hp → VK → Prop := fun xs H Q => (∃ i j, xs = [.int i, .int j] ∧ Q (.int (if j > i then j else i)) H) ∨ rMax K xs H Q
def rMinV (K : PySem.W.Frag) : List V → Hp → VK → Prop := fun xs H Q => (∃ i j, xs = [.int i, .int j] ∧ Q (.int (if j < i then j else i)) H) ∨ rMin K xs H Q
theorem call_maxV (hc : X.calm = true) : CallR X (.builtin "max") (rMaxV X.K) := CallR.or (call_max2 hc) (cr_max hc)
theorem call_minV (hc : X.calm = true) : CallR X (.builtin "min") (rMinV X.K) := CallR.or (call_min2 hc) (cr_min hc)
theorem cd_max : CallD K (rMaxV K) dMax := by
  intro F H xs cs res Q s hc e
  unfold dMax at e
  split at e
  · cases e
    obtain ⟨v, w, rfl, hv, hw⟩ := hc.two
    exact ⟨fun i q => (nomatch q), fun q => .inl ⟨_, _, by rw [hv.int, hw.int], q.1 _ (by unfold R; rfl)⟩⟩
  · split at e
    · rename_i a r ei
      cases e
      obtain ⟨v, rfl, hv⟩ := hc.one
      obtain ⟨p, vs, rfl, h1, h2⟩ := hv.lst s
      rw [RL.ints h2 ei] at h1
      refine ⟨fun i q => (nomatch q), fun q => .inr ⟨p, a :: r, rfl, SqL.of h1, by simp, fun m hm hle => ?_⟩⟩
      obtain ⟨g1, g2⟩ := maxI_spec a r
      have : m = maxI (a :: r) := Int.le_antisymm (g2 m hm) (hle _ g1)
      rw [this]
      exact q.1 _ (by unfold R; rfl)
    · cases e
  · cases e
theorem cd_min : CallD K (rMinV K) dMin := by
  intro F H xs cs res Q s hc e
  unfold dMin at e
  split at e
  · cases e
    obtain ⟨v, w, rfl, hv, hw⟩ := hc.two
    exact ⟨fun i q => (nomatch q), fun q => .inl ⟨_, _, by rw [hv.int, hw.int], q.1 _ (by unfold R; rfl)⟩⟩
  · split at e
    · rename_i a r ei
      cases e
      obtain ⟨v, rfl, hv⟩ := hc.one
      obtain ⟨p, vs, rfl, h1, h2⟩ := hv.lst s
      rw [RL.ints h2 ei] at h1
      refine ⟨fun i q => (nomatch q), fun q => .inr ⟨p, a :: r, rfl, SqL.of h1, by simp, fun m hm hle => ?_⟩⟩
      obtain ⟨g1, g2⟩ := minI_spec a r
      have : m = minI (a :: r) := Int.le_antisymm (hle _ g1) (g2 m hm)
      rw [this]
      exact q.1 _ (by unfold R; rfl)
    · cases e
  · cases e
theorem cd_sum : CallD K (rSum K) dSum := by
  intro F H xs cs res Q s hc e
  unfold dSum at e
  split at e
  · split at e
    · rename_i is ei
      cases e
      obtain ⟨v, rfl, hv⟩ := hc.one
      obtain ⟨p, vs, rfl, h1, h2⟩ := hv.lst s
      rw [RL.ints h2 ei] at h1
      exact ⟨fun i q => (nomatch q), fun q => ⟨p, is, rfl, SqL.of h1, q.1 _ (by unfold R; rfl)⟩⟩
    · cases e
  · cases e
theorem cd_all : CallD K (L2.rAll K) dAll := by
  intro F H xs cs res Q s hc e
  unfold dAll at e
  split at e
  · split at e
    · rename_i is ei
      cases e
      obtain ⟨v, rfl, hv⟩ := hc.one
      obtain ⟨p, vs, rfl, h1, h2⟩ := hv.lst s
      rw [RL.bls h2 ei] at h1
      exact ⟨fun i q => (nomatch q), fun q => ⟨p, is, rfl, SqL.of h1, q.1 _ (by unfold R; rfl)⟩⟩
    · cases e
  · cases e
theorem cd_any : CallD K (L2.rAny K) dAny := by
  intro F H xs cs res Q s hc e
  unfold dAny at e
  split at e
  · split at e
    · rename_i is ei
      cases e
      obtain ⟨v, rfl, hv⟩ := hc.one
      obtain ⟨p, vs, rfl, h1, h2⟩ := hv.lst s
      rw [RL.bls h2 ei] at h1
      exact ⟨fun i q => (nomatch q), fun q => ⟨p, is, rfl, SqL.of h1, q.1 _ (by unfold R; rfl)⟩⟩
    · cases e
  · cases e
omit [CodeTabs] in
theorem insI_perm (x : Int) : ∀ l : List Int, (insI x l).Perm (x :: l)
  | [] => .refl _
  | y :: ys => by
    unfold insI
    split
    · exact .refl _
    · exact .trans (.cons y (insI_perm x ys)) (.swap x y ys)
omit [CodeTabs] in
theorem sortI_perm : ∀ l : List Int, (sortI l).Perm l
  | [] => .refl _
  | x :: xs => .trans (insI_perm x (sortI xs)) (.cons x (sortI_perm xs))
omit [CodeTabs] in
theorem insI_sorted (x : Int) : ∀ l : List Int, l.Pairwise (· ≤ ·) → (insI x l).Pairwise (· ≤ ·)
  | [], _ => by simp [insI]
  | y :: ys, h => by
    unfold insI
    have h' := List.pairwise_cons.mp h
    split
    · rename_i l
      refine List.pairwise_cons.mpr ⟨fun z hz => ?_, h⟩
      rcases List.mem_cons.mp hz with rfl | hz
      · exact l
      · exact Int.le_trans l (h'.1 z hz)
    · rename_i l
      refine List.pairwise_cons.mpr ⟨fun z hz => ?_, insI_sorted x ys h'.2⟩
      rcases List.mem_cons.mp ((insI_perm x ys).mem_iff.mp hz) with rfl | hz
      · omega
      · exact h'.1 z hz
omit [CodeTabs] in
theorem sortI_sorted : ∀ l : List Int, (sortI l).Pairwise (· ≤ ·)
  | [] => .nil
  | x :: xs => insI_sorted x _ (sortI_sorted xs)
theorem sorted_uniq : ∀ {a b : List Int}, a.Perm b → a.Pairwise (· ≤ ·) → b.Pairwise (· ≤ ·) → a = b
  | [], b, p, _, _ => (List.nil_perm.mp p).symm
  | x :: xs, [], p, _, _ => absurd (List.perm_nil.mp p) (by simp)
  | x :: xs, y :: ys, p, h1, h2 => by
    have h1' := List.pairwise_cons.mp h1
    have h2' := List.pairwise_cons.mp h2
    have e : x = y := by
      have m1 : x ∈ y :: ys := p.mem_iff.mp List.mem_cons_self
      have m2 : y ∈ x :: xs := p.mem_iff.mpr List.mem_cons_self
      rcases List.mem_cons.mp m1 with q | q
      · exact q
      · rcases List.mem_cons.mp m2 with q' | q'
        · exact q'.symm
        · exact Int.le_antisymm (h1'.1 y q') (h2'.1 x q)
    subst e
    rw [sorted_uniq (List.Perm.cons_inv p) h1'.2 h2'.2]
theorem cd_sorted : CallD K (rSorted K) dSorted := by
  intro F H xs cs res Q s hc e
  unfold dSorted at e
  split at e
  · split at e
    · rename_i is ei
      split at e
      · rename_i hl
        cases e
        obtain ⟨v, rfl, hv⟩ := hc.one
        obtain ⟨p, vs, rfl, h1, h2⟩ := hv.lst s
        rw [RL.ints h2 ei] at h1
        refine ⟨fun i q => (nomatch q), fun q => ⟨p, is, rfl, SqL.of h1, hl, fun ns' r g1 g2 hr => ?_⟩⟩
        have : ns' = sortI is := sorted_uniq (g1.trans (sortI_perm is).symm) g2 (sortI_sorted is)
        rw [this]
        exact q r _ hr (RL.ofInts _)
      · cases e
    · cases e
  · cases e
theorem cd_tuple : CallD K (fun xs H Q => ∃ p ys, xs = [.ref p] ∧ ((SqL K H p ys ∧ ∀ l, H l = none → Q (.ref l) (upd H l (.tup ys))) ∨ (SqT K H p ys ∧ Q (.ref p) H))) dTuple := by
  intro F H xs cs res Q s hc e
  unfold dTuple at e
  split at e
  · cases e
    obtain ⟨v, rfl, hv⟩ := hc.one
    obtain ⟨p, vs, rfl, h1, h2⟩ := hv.lst s
    exact ⟨fun i q => (nomatch q), fun q => ⟨p, vs, rfl, .inl ⟨SqL.of h1, fun l hl => q.2 _ l vs rfl hl h2⟩⟩⟩
  · cases e
    obtain ⟨v, rfl, hv⟩ := hc.one
    have hv' := hv.scal (by intro _ q; cases q) (by intro _ _ q; cases q)
    obtain ⟨p, vs, rfl, h1, h2⟩ := hv.tup s
    exact ⟨fun i q => (nomatch q), fun q => ⟨p, vs, rfl, .inr ⟨h1, q.1 _ hv'⟩⟩⟩
  · cases e
theorem cd_list : CallD K (fun xs H Q => ∃ p ys, xs = [.ref p] ∧ (SqL K H p ys ∨ SqT K H p ys) ∧ ∀ l, H l = none → Q (.ref l) (upd H l (.lst ys))) dList := by
  intro F H xs cs res Q s hc e
  unfold dList at e
  split at e
  · cases e
    obtain ⟨v, rfl, hv⟩ := hc.one
    obtain ⟨p, vs, rfl, h1, h2⟩ := hv.lst s
    exact ⟨fun i q => (nomatch q), fun q => ⟨p, vs, rfl, .inl (SqL.of h1), fun l hl => q l _ hl h2⟩⟩
  · cases e
    obtain ⟨v, rfl, hv⟩ := hc.one
    obtain ⟨p, vs, rfl, h1, h2⟩ := hv.tup s
    exact ⟨fun i q => (nomatch q), fun q => ⟨p, vs, rfl, .inr h1, fun l hl => q l _ hl h2⟩⟩
  · cases e
    obtain ⟨v, rfl, hv⟩ := hc.one
    obtain ⟨p, rfl, h1⟩ := hv.scr s
    exact ⟨fun i q => (nomatch q), fun q => ⟨p, _, rfl, .inl h1, fun l hl => q l _ hl (RL.ofInts _)⟩⟩
  · cases e

/-! ### stores, methods -/
theorem setd_list : SetD K rSetL setL := by
  intro F H p ho c k x c' y v Q s h o hk hx e hq
  cases c with
  | lst ds =>
    cases k with
    | int i =>
      simp only [setL] at e
      split at e
      · rename_i j ej
        cases e
        cases ho with
        | lst vs =>
          have o : RL K F ds vs := o
          exact ⟨p, vs, i, j, rfl, hk.int, h, by rw [← RL.length _ _ o]; exact ej, hq _ (RL.set hx j o)⟩
        | _ => exact o.elim
      · cases e
    | _ => simp only [setL] at e; cases e
  | _ => simp only [setL] at e; cases e
theorem getd_list : GetD K (rIxL K) getL := by
  intro F H p ho c k x y Q s h o hk e hq
  cases c with
  | lst ds =>
    cases k with
    | int i =>
      simp only [getL] at e
      cases ho with
      | lst vs =>
        have o : RL K F ds vs := o
        obtain ⟨j, e1, e2⟩ := getAt_len (RL.length _ _ o) e
        obtain ⟨v, e3, h3⟩ := RL.get o e2
        exact ⟨p, vs, i, v, rfl, hk.int, SqL.of h, getAt_of e1 e3, hq v h3⟩
      | _ => exact o.elim
    | _ => simp only [getL] at e; cases e
  | _ => simp only [getL] at e; cases e
theorem ipd_add : IpD K (ipI fun i j => i + j) addI := by
  intro F H x y z v w Q s h1 h2 e hq
  unfold addI at e
  split at e
  · cases e
    unfold R at h1
    exact ⟨_, _, h1, h2.int, hq _ (by unfold R; rfl)⟩
  · cases e
theorem ipd_sub : IpD K (ipI fun i j => i - j) subI := by
  intro F H x y z v w Q s h1 h2 e hq
  unfold subI at e
  split at e
  · cases e
    unfold R at h1
    exact ⟨_, _, h1, h2.int, hq _ (by unfold R; rfl)⟩
  · cases e
theorem pget_list : PGet X (rIxL X.K) := by
  intro pins s σ H x y v u Q I rx ry h
  obtain ⟨p, xs, i, z, rfl, rfl, hq, he, q⟩ := h
  cases rx
  obtain ⟨t, rfl⟩ := ry
  obtain ⟨its, r, pl, hz⟩ := I.list hq
  obtain ⟨j, h1, h2, h3, h4, h5⟩ := atI_get he
  obtain ⟨w, ew, rw'⟩ := r.get h2
  have hl := r.length
  have hn := line63
  have fin : EP X pins σ Q w s := ⟨z, H, I, rw', q⟩
  by_cases h0 : 0 ≤ i
  · have hj : i.toNat = j := by
      rw [seqIndex_of h0 h5] at h1
      exact Option.some.inj h1
    exact wpAny_getItem_list (x := w) pl.isList h0 (by omega) (by rw [hj]; simpa using ew) fin
  · have hj : (i + (its.toArray.size : Int)).toNat = j := by
      rw [seqIndex_neg (by omega) h4] at h1
      rw [List.size_toArray, ← hl]
      exact Option.some.inj h1
    exact wpAny_getItem_list_neg (Q := fun r s' => EP X pins σ Q r s') pl.isList (by omega) (by rw [List.size_toArray] <;> omega) (by omega) (by rw [hj]; simpa using ew) fin
theorem md_append : MutD K rAppend mAppend := by
  intro F H p ho c c' ds res vs Q s h o hds e
  unfold mAppend at e
  split at e
  · rename_i xs d
    split at e
    · rename_i hl
      cases e
      refine ⟨.non, rfl, fun hq => ?_⟩
      cases ho with
      | lst us =>
        have o : RL K F xs us := o
        unfold RL at hds
        obtain ⟨v, r, rfl, h1, h2⟩ := hds
        unfold RL at h2
        subst h2
        refine ⟨p, us, v, rfl, rfl, h, by rw [← RL.length _ _ o, sizeLine_eq]; exact hl, hq _ _ (RL.append o (RL.cons h1 RL.nil)) (by unfold R; rfl)⟩
      | _ => exact o.elim
    · cases e
  · cases e
theorem seqIx_eq {n : Nat} {i : Int} {j : Nat} (h : ixOf n i = some j) : seqIndex? i n = some j := (ixN_seq h).1
theorem md_popAt : MutD K rPopAt mPopAt := by
  intro F H p ho c c' ds res vs Q s h o hds e
  unfold mPopAt at e
  split at e
  · rename_i xs i
    split at e
    · rename_i hb
      split at e
      · cases e
      · rename_i j ej
        split at e
        · cases e
        · rename_i d ed
          cases e
          refine ⟨d, rfl, fun hq => ?_⟩
          cases ho with
          | lst us =>
            have o : RL K F xs us := o
            unfold RL at hds
            obtain ⟨v, r, rfl, h1, h2⟩ := hds
            unfold RL at h2
            subst h2
            unfold R at h1
            subst h1
            obtain ⟨w, e3, h3⟩ := RL.get o ed
            exact ⟨p, us, i, j, w, rfl, rfl, h, by omega, by omega, by rw [← RL.length _ _ o]; exact seqIx_eq ej, e3, hq _ _ (RL.eraseIdx j o) h3⟩
          | _ => exact o.elim
    · cases e
  · cases e
end
end PV
end

section
set_option maxRecDepth 100000
namespace PV
open PySem PySem.Spec PyProof.Rows L2
variable [CodeTabs]

/-! ### what is walked -/
def HGood (K : PySem.W.Frag) (H : Hp) : Prop := ∀ a xs, (SqL K H a xs ∨ SqT K H a xs) → xs.length ≤ 16777216
section
variable {X : Cx} {Γ : Hp → Option Ea → Prop} {tg iter : Expr}
theorem PI.weak {wi wi' : TI} (h : PI X tg iter wi) (w : ∀ σ H R, wi' σ H R → wi σ H R) : PI X tg iter wi' := ⟨fun pins s σ H R I q => h.run pins s σ H R I (w _ _ _ q)⟩
theorem PI.or {w1 w2 : TI} (h1 : PI X tg iter w1) (h2 : PI X tg iter w2) : PI X tg iter (fun σ H R => w1 σ H R ∨ w2 σ H R) := ⟨fun pins s σ H R I q => by
  rcases q with q | q
  · exact h1.run pins s σ H R I q
  · exact h2.run pins s σ H R I q⟩
/-- sequences are not too long -/
theorem PI.good {wi : TI} (h : PI X tg iter wi) : PI X tg iter (fun σ H R => wi σ H fun J H' => HGood X.K H' → R J H') := ⟨fun pins s σ H R I q => by
  refine thn (h.run pins s σ H _ I q) fun v s1 h1 => thn h1 fun itv s2 ⟨it, fp, tn, J, H', e, I2, T, t0, f, k⟩ => ?_
  refine ⟨it, fp, tn, J, H', e, I2, T, t0, f, k fun a xs hx => ?_⟩
  have z : (sizeLine : Nat) = 16777216 := sizeLine_eq
  rcases hx with hx | hx
  · obtain ⟨_, _, _, l⟩ := I2.list hx; omega
  · obtain ⟨_, _, _, l⟩ := I2.tuple hx; omega⟩
end
section
variable {K : PySem.W.Frag} {F : Hp}
theorem walks_list {a : Addr} {vs : List V} {ds : List D} (ha : F a = some (.lst vs)) (h : RL K F ds vs) (hl : ds.length ≤ 16777216) : Walks K F (Itl K a) ds := by
  have l := RL.length _ _ h
  refine ⟨hl, fun i H s hi => ⟨vs, vs[i]'(by omega), SqL.of (s _ _ ha), List.getElem?_eq_getElem _⟩, fun i H s hi => ⟨vs, SqL.of (s _ _ ha), by omega⟩, fun i H x H' s y hi => ?_⟩
  obtain ⟨e, y⟩ := y
  obtain ⟨v, e1, h1⟩ := RL.get h (List.getElem?_eq_getElem hi)
  refine ⟨_, List.getElem?_eq_getElem hi, .inl ⟨e, ?_⟩⟩
  have := y vs (SqL.of (s _ _ ha))
  rw [e1] at this; cases this
  exact h1
theorem walks_tup {a : Addr} {vs : List V} {ds : List D} (ha : SqT K F a vs) (h : RL K F ds vs) (hl : ds.length ≤ 16777216) : Walks K F (Itt K a) ds := by
  have l := RL.length _ _ h
  refine ⟨hl, fun i H s hi => ⟨vs, vs[i]'(by omega), PV.Same.seqT s ha, List.getElem?_eq_getElem _⟩, fun i H s hi => ⟨vs, PV.Same.seqT s ha, by omega⟩, fun i H x H' s y hi => ?_⟩
  obtain ⟨e, y⟩ := y
  obtain ⟨v, e1, h1⟩ := RL.get h (List.getElem?_eq_getElem hi)
  refine ⟨_, List.getElem?_eq_getElem hi, .inl ⟨e, ?_⟩⟩
  have := y vs (PV.Same.seqT s ha)
  rw [e1] at this; cases this
  exact h1
theorem walks_str {st : List Nat} (ho : okS st = true) : Walks K F (Its ⟨st.toArray⟩) (st.map fun c => D.str [c]) := by
  have sz : (⟨st.toArray⟩ : Str).cps.size = st.length := by simp
  refine ⟨by rw [List.length_map]; exact okS_len ho, fun i H s hi => by show i < (⟨st.toArray⟩ : Str).cps.size; rw [sz]; simpa using hi, fun i H s hi => by show (⟨st.toArray⟩ : Str).cps.size ≤ i; rw [sz]; simpa using hi, fun i H x H' s y hi => ?_⟩
  obtain ⟨e, c, hc, ex⟩ := y
  have hc' : st[i]? = some c := by simpa using hc
  refine ⟨.str [c], by rw [List.getElem?_map, hc']; rfl, .inl ⟨e, ?_⟩⟩
  unfold R
  refine ⟨ex, ?_⟩
  unfold okS at ho ⊢
  simp only [Bool.and_eq_true] at ho
  have := List.all_eq_true.mp ho.2 c (List.mem_of_getElem? hc')
  simpa using this
theorem walks_range {lo : Int} {n : Nat} (hl : n ≤ 16777216) : Walks K F (Itr lo n) (((List.range n).map fun i => lo + (i : Nat)).map D.int) := by
  have len : (((List.range n).map fun i : Nat => lo + (i : Int)).map D.int).length = n := by simp
  refine ⟨by rw [len]; exact hl, fun i H s hi => by rw [len] at hi; exact hi, fun i H s hi => by rw [len] at hi; exact hi, fun i H x H' s y hi => ?_⟩
  rw [len] at hi
  obtain ⟨e, ex⟩ := y
  refine ⟨.int (lo + (i : Nat)), by simp [hi], .inl ⟨e, ?_⟩⟩
  unfold R; exact ex
theorem enumL_get : ∀ (ds : List D) (k i : Nat), (enumL k ds)[i]? = ds[i]?.map fun d => D.tup [.int ((k + i : Nat) : Int), d]
  | [], k, i => by simp [enumL]
  | d :: ds, k, 0 => by simp [enumL]
  | d :: ds, k, i + 1 => by
    simp only [enumL, List.getElem?_cons_succ]
    rw [enumL_get ds (k + 1) i, show k + 1 + i = k + (i + 1) by omega]
theorem enumL_len : ∀ (ds : List D) (k : Nat), (enumL k ds).length = ds.length
  | [], _ => rfl
  | d :: ds, k => by simp [enumL, enumL_len ds (k + 1)]
theorem walks_enum {a : Addr} {vs : List V} {ds : List D} (ha : F a = some (.lst vs)) (h : RL K F ds vs) (hl : ds.length ≤ 16777216) : Walks K F (Ite K a) (enumL 0 ds) := by
  have l := RL.length _ _ h
  have le := enumL_len ds 0
  refine ⟨by rw [le]; exact hl, fun i H s hi => ⟨vs, vs[i]'(by omega), SqL.of (s _ _ ha), List.getElem?_eq_getElem _⟩, fun i H s hi => ⟨vs, SqL.of (s _ _ ha), by omega⟩, fun i H x H' s y hi => ?_⟩
  obtain ⟨T, x', e, hT, eH, y⟩ := y
  have hi' : i < ds.length := by omega
  obtain ⟨v, e1, h1⟩ := RL.get h (List.getElem?_eq_getElem hi')
  have := y vs (SqL.of (s _ _ ha))
  rw [e1] at this; cases this
  refine ⟨_, by rw [enumL_get, List.getElem?_eq_getElem hi']; rfl, .inr (.inl ⟨T, _, _, rfl, e, hT, eH, ?_⟩)⟩
  exact RL.cons (by unfold R; simp) (RL.cons h1 RL.nil)
end
section
variable {X : Cx} {Γ : Hp → Option Ea → Prop} {tg iter e a b : Expr} {f fa fb : E} {p pos : Pos}
theorem ix_val (he : EX X Γ e f) : IX X Γ tg e (iVal f) := ⟨fun φ hφ => by
  refine PI.weak (PI.or (PI.good (pi_list (he.at' φ hφ))) (PI.or (PI.good (pi_tup (he.at' φ hφ))) (PI.good (pi_str (he.at' φ hφ))))) fun σ H R ⟨F, env, ds, env', r0, e, k⟩ => ?_
  unfold iVal at e
  split at e
  · cases e
  · rename_i q env1 ea
    split at e
    · rename_i xs env2 ef
      cases e
      refine .inl ⟨F, env, q, env1, r0, ea, fun F1 H1 v s1 r1 h1 => ?_⟩
      obtain ⟨F2, s2, r2, h2⟩ := r1.freeze h1 ef
      unfold PV.R at h2
      obtain ⟨p, vs, rfl, g1, g2⟩ := h2
      refine ⟨p, rfl, ⟨vs, SqL.of (r2.sub _ _ g1)⟩, fun hg => k F2 H1 _ (s1.trans s2) r2 (walks_list g1 g2 ?_)⟩
      rw [RL.length _ _ g2]
      exact hg p vs (.inl (SqL.of (r2.sub _ _ g1)))
    · rename_i xs env2 ef
      cases e
      refine .inr (.inl ⟨F, env, q, env1, r0, ea, fun F1 H1 v s1 r1 h1 => ?_⟩)
      obtain ⟨F2, s2, r2, h2⟩ := r1.freeze h1 ef
      unfold PV.R at h2
      obtain ⟨p, vs, rfl, g1, g2⟩ := h2
      refine ⟨p, rfl, ⟨vs, SqT.of (r2.sub _ _ g1)⟩, fun hg => k F2 H1 _ (s1.trans s2) r2 (walks_tup (SqT.of g1) g2 ?_)⟩
      rw [RL.length _ _ g2]
      exact hg p vs (.inr (SqT.of (r2.sub _ _ g1)))
    · rename_i st env2 ef
      cases e
      refine .inr (.inr ⟨F, env, q, env1, r0, ea, fun F1 H1 v s1 r1 h1 => ?_⟩)
      obtain ⟨F2, s2, r2, h2⟩ := r1.freeze h1 ef
      unfold PV.R at h2
      exact ⟨_, h2.1, fun hg => k F2 H1 _ (s1.trans s2) r2 (walks_str h2.2)⟩
    · cases e⟩
theorem ix_range1 (hg : Gl X "range") (hm : X.mg "range" = none) (ha : EX X Γ a fa) (hs : starEach [a] X.env = [(false, eval a X.env)] := by rfl) : IX X Γ tg (.Call (.Name "range" p) [a] [] pos) (iRange1 fa) := ⟨fun φ hφ => by
  refine PI.weak (pi_range1 hg hm (pa_cons (ha.at' φ hφ) pa_nil (by rw [hs]; rfl)) hs) fun σ H R ⟨F, env, ds, env', r0, e, k⟩ => ?_
  unfold iRange1 at e
  split at e
  · cases e
  · rename_i q env1 ea
    refine ⟨F, env, q, env1, r0, ea, fun F1 H1 v s1 r1 h1 => ?_⟩
    split at e
    · rename_i b eb
      split at e
      · rename_i hb
        cases e
        have hv := r1.peek h1 eb
        unfold big at hb
        refine ⟨b, by rw [hv.int], by omega, by omega, k F1 H1 _ s1 r1 ?_⟩
        have := walks_range (K := X.K) (F := F1) (lo := 0) (n := b.toNat) (by omega)
        unfold rangeL
        rw [show (b - 0).toNat = b.toNat by omega]
        exact this
      · cases e
    · cases e⟩
theorem ix_range2 (hg : Gl X "range") (hm : X.mg "range" = none) (ha : EX X Γ a fa) (hb : EX X Γ b fb) (hs : starEach [a, b] X.env = [(false, eval a X.env), (false, eval b X.env)] := by rfl) (hs2 : starEach [b] X.env = [(false, eval b X.env)] := by rfl) :
    IX X Γ tg (.Call (.Name "range" p) [a, b] [] pos) (iRange2 (eCons fa (eCons fb eNil))) := ⟨fun φ hφ => by
  refine PI.weak (pi_range2 hg hm ((ax_cons ha (ax_cons hb ax_nil (by rw [hs2]; rfl)) (by rw [hs, hs2])).at' φ hφ) hs hs2) fun σ H R ⟨F, env, ds, env', r0, e, k⟩ => ?_
  unfold iRange2 at e
  split at e
  · cases e
  · rename_i rs env1 ea
    refine ⟨F, env, rs, env1, r0, ea, fun F1 H1 vs s1 r1 h1 => ?_⟩
    split at e
    · rename_i i j eb
      split at e
      · rename_i hb
        cases e
        obtain ⟨v, w, rfl, hv, hw⟩ := (r1.peekAll h1 eb).two
        refine ⟨i, j, by rw [hv.int, hw.int], ⟨by have := hb.1; unfold big at this; omega, by have := hb.1; unfold big at this; omega, by have := hb.2.1; unfold big at this; omega, by have := hb.2.1; unfold big at this; omega⟩, k F1 H1 _ s1 r1 ?_⟩
        exact walks_range hb.2.2
      · cases e
    · cases e⟩
theorem ix_enum {elts : List Expr} {kk : Nat} {tpos : Pos} (hg : Gl X "enumerate") (hm : X.mg "enumerate" = none) (ha : EX X Γ a fa) (hs : starEach [a] X.env = [(false, eval a X.env)] := by rfl) :
    IX X Γ (.Tuple elts kk tpos) (.Call (.Name "enumerate" p) [a] [] pos) (PV.iEnum fa) := ⟨fun φ hφ => by
  refine PI.weak (PI.good (pi_enum hg hm (pa_cons (ha.at' φ hφ) pa_nil (by rw [hs]; rfl)) hs)) fun σ H R ⟨F, env, ds, env', r0, e, k⟩ => ?_
  unfold PV.iEnum at e
  split at e
  · cases e
  · rename_i q env1 ea
    split at e
    · rename_i xs env2 ef
      cases e
      refine ⟨F, env, q, env1, r0, ea, fun F1 H1 v s1 r1 h1 => ?_⟩
      obtain ⟨F2, s2, r2, h2⟩ := r1.freeze h1 ef
      unfold PV.R at h2
      obtain ⟨p, vs, rfl, g1, g2⟩ := h2
      refine ⟨p, vs, rfl, SqL.of (r2.sub _ _ g1), fun hg => k F2 H1 _ (s1.trans s2) r2 (walks_enum g1 g2 ?_)⟩
      rw [RL.length _ _ g2]
      exact hg p vs (.inl (SqL.of (r2.sub _ _ g1)))
    · cases e⟩
end

/-! ### isinstance, list(range), join -/
def tyName : Ty → String
  | .int => "int" | .bool => "bool" | .str => "str" | .list => "list" | .tuple => "tuple"
section
variable {K : PySem.W.Frag}
theorem kb : ∀ (a : String) (t : Ty), a ∈ ["NoneType", "bool", "int", "str", "list", "tuple"] → kitB a (tyName t) = some (match t, a with | .int, "int" => true | .int, "bool" => true | .bool, "bool" => true | .str, "str" => true | .list, "list" => true | .tuple, "tuple" => true | _, _ => false) := by
  intro a t h
  simp only [List.mem_cons, List.not_mem_nil, or_false] at h
  rcases h with rfl | rfl | rfl | rfl | rfl | rfl <;> cases t <;> decide +kernel
theorem und_isi (t : Ty) : UnD K (fun x H Q => rIsi K [x, .ty (tyName t)] H Q) (dIsi t) := by
  intro F H x c res Q s hc e
  unfold dIsi at e
  split at e
  · rename_i b eb
    cases e
    refine ⟨fun i q => (nomatch q), fun q => ?_⟩
    have q' : Q (.bl b) H := q.1 _ (by unfold R; rfl)
    cases c with
    | non => exact ⟨_, _, _, _, b, rfl, .ty _, .base (by rw [hc.non]; exact .non), kit_ty (by rw [kb _ _ (by decide)]; cases t <;> first | exact eb | (cases eb; rfl)), q'⟩
    | bl x => exact ⟨_, _, _, _, b, rfl, .ty _, .base (by rw [hc.bl]; exact .bl _), kit_ty (by rw [kb _ _ (by decide)]; cases t <;> first | exact eb | (cases eb; rfl)), q'⟩
    | int x => exact ⟨_, _, _, _, b, rfl, .ty _, .base (by rw [hc.int]; exact .int _), kit_ty (by rw [kb _ _ (by decide)]; cases t <;> first | exact eb | (cases eb; rfl)), q'⟩
    | str x => exact ⟨_, _, _, _, b, rfl, .ty _, .base (by rw [hc.str.1]; exact .str _), kit_ty (by rw [kb _ _ (by decide)]; cases t <;> first | exact eb | (cases eb; rfl)), q'⟩
    | lst x =>
      obtain ⟨p, vs, rfl, h1, h2⟩ := hc.lst s
      exact ⟨_, _, _, _, b, rfl, .ty _, .base (.lst h1), kit_ty (by rw [kb _ _ (by decide)]; cases t <;> first | exact eb | (cases eb; rfl)), q'⟩
    | tup x =>
      obtain ⟨p, vs, rfl, h1, h2⟩ := hc.tup s
      have : TyX K H (.ref p) (.type "tuple") := by
        rcases h1 with (h1 | ⟨o, h1⟩) | ⟨o, its, n, h1, h2, _⟩
        · exact .base (.tup h1)
        · exact .fTuple h1
        · exact .kTuple h1 h2
      exact ⟨_, _, _, _, b, rfl, .ty _, this, kit_ty (by rw [kb _ _ (by decide)]; cases t <;> first | exact eb | (cases eb; rfl)), q'⟩
    | dic _ _ => cases t <;> cases eb
    | scr _ => cases t <;> cases eb
  · cases e
end
section
variable {X : Cx} {Γ : Hp → Option Ea → Prop} {a b : Expr} {f g : E} {p p2 pos : Pos}
theorem boot_ty (t : Ty) : bootBuiltins (Str.ofString (tyName t)) = some (.type (tyName t)) := by cases t <;> decide +kernel
theorem ex_isi (t : Ty) (hg : Gl X "isinstance") (hm : X.mg "isinstance" = none) (ht : Gl X (Str.ofString (tyName t))) (hmt : X.mg (Str.ofString (tyName t)) = none) (ha : EX X Γ a f)
    (he : starEach [a, .Name (Str.ofString (tyName t)) p2] X.env = (false, eval a X.env) :: starEach [.Name (Str.ofString (tyName t)) p2] X.env := by rfl) (he2 : starEach [.Name (Str.ofString (tyName t)) p2] X.env = (false, eval (.Name (Str.ofString (tyName t)) p2) X.env) :: starEach [] X.env := by rfl)
    (hpl : (backTo pos (starEach [.Name (Str.ofString (tyName t)) p2] X.env)).any (·.1) = false := by rfl) : EX X Γ (.Call (.Name "isinstance" p) [a, .Name (Str.ofString (tyName t)) p2] [] pos) (eUn (dIsi t) f) :=
  ⟨fun φ hφ => PE.weak (pe_callB call_isi hg hm PyProof.Rows.boot_isinstance (pa_cons (ha.at' φ hφ) (pa_cons (pe_bltn (v := .ty (tyName t)) ht hmt (boot_ty t) rfl (by cases t <;> decide) (by cases t <;> decide)) pa_nil he2) he) (by decide) (by decide) he hpl) fun σ H Q h => rE_un (und_isi t) h⟩
theorem und_listRange : UnD X.K (fun x H Q => ∃ n, x = .int n ∧ (RgOk 0 n ∧ ∀ q, H q = none → Q (.ref q) (upd H q (.lst (rgV 0 n))))) (fun d => dListRange [d]) := by
  intro F H x c res Q s hc e
  cases c with
  | int n =>
    simp only [dListRange] at e
    split at e
    · rename_i h
      cases e
      refine ⟨fun i q => (nomatch q), fun q => ⟨n, hc.int, RgOk.of_le (by decide) (by unfold big at h; omega) (by decide) h.1, fun r hr => q r _ hr ?_⟩⟩
      have := RL.ofInts (K := X.K) (F := F) (rangeL 0 n)
      unfold rangeL at this ⊢
      show RL X.K F _ (rgV 0 n)
      unfold rgV
      rw [List.map_map (f := fun i : Nat => (0 : Int) + i) (g := V.int)] at this
      exact this
    · cases e
  | _ => simp only [dListRange] at e; cases e
theorem ex_listRange (hc : X.calm = true) (hg : Gl X "list") (hm : X.mg "list" = none) (hgr : Gl X "range") (hmr : X.mg "range" = none) (ha : EX X Γ a f) (na : starEach [a] X.env = (false, eval a X.env) :: starEach [] X.env := by rfl)
    (na2 : starEach [.Call (.Name "range" p2) [a] [] pos] X.env = (false, eval (.Call (.Name "range" p2) [a] [] pos) X.env) :: starEach [] X.env := by rfl) {pos' : Pos} : EX X Γ (.Call (.Name "list" p) [.Call (.Name "range" p2) [a] [] pos] [] pos') (eUn (fun d => dListRange [d]) f) :=
  ⟨fun φ hφ => PE.weak (pe_listRg hc hg hm (prg_1 hgr hmr (ha.at' φ hφ) na) na2) fun σ H Q h => rE_un und_listRange h⟩
end
section
variable {K : PySem.W.Frag}
theorem strs_len (ss : List (List Nat)) : ((ss.map fun s => (⟨s.toArray⟩ : Str)).map (·.length)).sum = (ss.map (·.length)).sum := by
  induction ss with
  | nil => rfl
  | cons s ss ih => simp only [List.map_cons, List.sum_cons, ih, str_len]
theorem join_txt (a : List Nat) : ∀ ss : List (List Nat), Str.join ⟨a.toArray⟩ (ss.map fun s => (⟨s.toArray⟩ : Str)) = ⟨(joinS a ss).toArray⟩
  | [] => rfl
  | [x] => rfl
  | x :: y :: r => by
    show (⟨x.toArray⟩ : Str) ++ ⟨a.toArray⟩ ++ Str.join ⟨a.toArray⟩ ((y :: r).map fun s => (⟨s.toArray⟩ : Str)) = _
    rw [join_txt a (y :: r), str_app, str_app]
    rfl
def joinLen (a : List Nat) (ss : List (List Nat)) : Nat := (ss.map (·.length)).sum + ss.length * a.length
theorem joinS_len (a : List Nat) : ∀ ss : List (List Nat), (joinS a ss).length ≤ joinLen a ss
  | [] => Nat.zero_le _
  | [x] => by unfold joinLen; simp [joinS]
  | x :: y :: r => by
    have := joinS_len a (y :: r)
    unfold joinLen at this ⊢
    simp only [joinS, List.length_append, List.map_cons, List.sum_cons, List.length_cons] at *
    have e : (r.length + 1 + 1) * a.length = (r.length + 1) * a.length + a.length := by rw [Nat.add_mul, Nat.one_mul]
    rw [e]
    omega
theorem joinS_ok (a : List Nat) (ha : a.all (· < 0x110000) = true) : ∀ ss : List (List Nat), (∀ s ∈ ss, okS s = true) → (joinS a ss).all (· < 0x110000) = true
  | [], _ => rfl
  | [x], h => by have := h x (by simp); unfold okS at this; simp only [Bool.and_eq_true] at this; exact this.2
  | x :: y :: r, h => by
    have h1 := h x (by simp)
    unfold okS at h1
    simp only [Bool.and_eq_true] at h1
    have h2 := joinS_ok a ha (y :: r) fun s hs => h s (List.mem_cons_of_mem _ hs)
    simp only [joinS, List.all_append, h1.2, ha, h2, Bool.and_self]
end
end PV
end

section
set_option maxRecDepth 100000
namespace PV
open PySem PySem.Spec PyProof.Rows L2
variable [CodeTabs]

section
variable {K : PySem.W.Frag} {X : Cx}
theorem idxOf_spec (x : D) : ∀ (ys : List D) (k j : Nat), idxOf x ys k = some j → k ≤ j ∧ (∃ z, ys[j - k]? = some z ∧ z.eqv x = true) ∧ ∀ m, m < j - k → ∀ z, ys[m]? = some z → z.eqv x = false
  | [], _, _, h => by cases h
  | y :: ys, k, j, h => by
    unfold idxOf at h
    split at h
    · rename_i e
      cases h
      refine ⟨Nat.le_refl _, ⟨y, by simp, e⟩, fun m hm => by omega⟩
    · rename_i e
      obtain ⟨h1, ⟨z, h2, h3⟩, h4⟩ := idxOf_spec x ys (k + 1) j h
      refine ⟨by omega, ⟨z, ?_, h3⟩, fun m hm z' hz' => ?_⟩
      · rw [show j - k = (j - (k + 1)) + 1 by omega]; simpa using h2
      · cases m with
        | zero => simp at hz'; subst hz'; simpa using e
        | succ m => exact h4 m (by omega) z' (by simpa using hz')
theorem md_index : MethD K (rIndex K) mIndex := by
  intro F H x xs c cs res Q s hc hcs e
  unfold mIndex at e
  split at e
  · rename_i ys d
    split at e
    · rename_i hh
      split at e
      · rename_i j ej
        cases e
        simp only [Bool.and_eq_true] at hh
        obtain ⟨v, rfl, hv⟩ := hcs.one
        obtain ⟨p, vs, rfl, h1, h2⟩ := hc.lst s
        have hd : R K F d v := hv.scal (by intro _ q; subst q; cases hh.1) (by intro _ _ q; subst q; cases hh.1)
        obtain ⟨_, ⟨z, z1, z2⟩, z3⟩ := idxOf_spec d ys 0 j ej
        obtain ⟨w, w1, w2⟩ := RL.get h2 z1
        have sc : ∀ (m : Nat) (z : D), ys[m]? = some z → z.scal = true := fun m z hz => List.all_eq_true.mp hh.2 z (List.mem_of_getElem? hz)
        refine ⟨fun i q => (nomatch q), fun q => ⟨p, vs, v, j, w, rfl, rfl, SqL.of h1, flat_of hh.1 hd, (inV_of hh.1 hd hh.2 h2).2, by simpa using w1, by rw [eqV_of (sc _ _ z1) hh.1 w2 hd]; exact z2, fun m z' hm hz' => ?_, q.1 _ (by unfold R; rfl)⟩⟩
        have lm : m < ys.length := by
          rw [RL.length _ _ h2]
          exact (List.getElem?_eq_some_iff.mp hz').1
        obtain ⟨u, u1, u2⟩ := RL.get h2 (List.getElem?_eq_getElem lm)
        rw [u1] at hz'; cases hz'
        rw [eqV_of (sc _ _ (List.getElem?_eq_getElem lm)) hh.1 u2 hd]
        exact z3 m (by omega) _ (List.getElem?_eq_getElem lm)
      · cases e
    · cases e
  · cases e
theorem md_join : MethD K (fun x xs H Q => ∃ a p, ∃ ys : List Str, x = .str a ∧ xs = [.ref p] ∧ (SqL K H p (ys.map V.str) ∨ SqT K H p (ys.map V.str)) ∧
    (ys.map (·.length)).sum + ys.length * a.length ≤ 16777216 ∧ Q (.str (Txt.join a ys)) H) mJoin := by
  intro F H x xs c cs res Q s hc hcs e
  unfold mJoin at e
  split at e
  · rename_i a ds
    split at e
    · rename_i ss es
      split at e
      · rename_i hl
        cases e
        obtain ⟨v, rfl, hv⟩ := hcs.one
        obtain ⟨p, vs, rfl, h1, h2⟩ := hv.lst s
        obtain ⟨g1, g2⟩ := RL.strs h2 es
        rw [g1] at h1
        obtain ⟨e1, e2⟩ := hc.str
        refine ⟨fun i q => (nomatch q), fun q => ⟨_, p, _, e1, rfl, .inl (SqL.of h1), ?_, q.1 _ ?_⟩⟩
        · rw [strs_len, List.length_map, str_len]
          exact hl
        · unfold R
          refine ⟨by rw [TL.join_eq, join_txt], ?_⟩
          have l := joinS_len a ss
          unfold okS at e2 ⊢
          simp only [Bool.and_eq_true, decide_eq_true_eq] at e2 ⊢
          exact ⟨Nat.le_trans l hl, joinS_ok a e2.2 ss g2⟩
      · cases e
    · cases e
  · cases e
theorem hu65 {k : Nat} {A : Around} (r : Room k A) : A.units + 65 < cLine := by have := r.un; omega
theorem ex_globInt {Γ : Hp → Option Ea → Prop} {x : Str} {i : Int} {t : Tok} {pos : Pos} (hg : Gl X x) (hm : X.mg x = some (.int i t)) (hd : (x == ("__debug__" : Str)) = false := by decide) : EX X Γ (.Name x pos) (eC (.int i)) :=
  ⟨fun φ hφ => PE.weak (pe_glob (v := .int i) hg hm ⟨t, rfl⟩ hd) fun _ _ _ h => rE_C (fun _ => by unfold R; rfl) h⟩
def rIaddV : R2 := fun x y H Q => rI0 (fun i j => .int (i + j)) x y H Q ∨ (∃ i j, x = .str i ∧ y = .str j ∧ i.length + j.length ≤ sizeLine ∧ Q (.str (i ++ j)) H)
theorem op_iaddV : OpR X (inplaceOp .Add) rIaddV := OpR.or iop_add iop_add_str
theorem opd_iadd : OpD K rIaddV dIadd := by
  intro F H x y c d res Q s hc hd e
  unfold dIadd at e
  split at e
  · cases e
    exact ⟨fun i q => (nomatch q), fun q => .inl ⟨_, _, hc.int, hd.int, q.1 _ (by unfold R; rfl)⟩⟩
  · split at e
    · rename_i hl
      cases e
      obtain ⟨e1, o1⟩ := hc.str
      obtain ⟨e2, o2⟩ := hd.str
      exact ⟨fun i q => (nomatch q), fun q => .inr ⟨_, _, e1, e2, by rw [str_len, str_len, sizeLine_eq]; exact hl, q.1 _ (by unfold R; exact ⟨by rw [str_app], okS_append o1 o2 hl⟩)⟩⟩
    · cases e
  · cases e
end
/-- the first store of a slot's name -/
abbrev LocOf (X : Cx) (x : Str) : Prop := Loc X.env.scope x
end PV
namespace PV
open PySem PySem.Spec PyProof.Rows L2
variable [CodeTabs]
section
variable {K : PySem.W.Frag} {cm : CM} {φ : Act} {W : WX} {a : E} {tg : Tg} {D : Ends} {σ : St} {H : Hp}
theorem rS_asg (h : rS K cm φ W (sAsg tg a) D σ H) : tAsg (rE K φ a) (rG K φ tg) D σ H := by
  obtain ⟨F, env, o, r0, e, k⟩ := h
  unfold sAsg at e
  split at e
  · cases e
  · rename_i q env1 ea
    refine ⟨F, env, q, env1, r0, ea, fun F1 H1 v s1 r1 h1 => ?_⟩
    split at e
    · cases e
    · rename_i d env2 ef
      split at e
      · cases e
      · rename_i env3 ep
        cases e
        obtain ⟨F2, s2, r2, h2⟩ := r1.freeze h1 ef
        exact ⟨F2, env2, d, env3, r2, h2, ep, fun σ' _ r3 => k F2 σ' H1 (s1.trans s2) r3⟩
end
section
variable {X : Cx} {Γ : Hp → Option Ea → Prop} {cm : CM} {W : WX} {e t : Expr} {a : E} {tg : Tg} {pos : Pos}
theorem sx_asg (he : EX X Γ e a) (hg : GX X Γ t tg) (hs : swapsWithSole [t] e pos.line X.env = pure false := by rfl) (hw : swappedStores [t] e X.env = pure none := by rfl)
    (h1 : (assignEach [t] X.env).map (·.2) = [assign t X.env] := by rfl) : SX X Γ cm W (.Assign [t] e pos) (sAsg tg a) :=
  ⟨fun φ hφ => PS.weak (ps_asg (he.at' φ hφ) (hg.at' φ hφ) hs hw h1) fun D σ H h => rS_asg h⟩
theorem zset (i : Nat) {x : Str} {pos' : Pos} (hN : X.N.Nodup) (he : EX X Γ e a) (hi : X.N[i]? = some x := by rfl) (hx : Loc X.env.scope x := by first | exact Or.inl rfl | exact Or.inr rfl) (hs : swapsWith e (some (.Name x pos')) pos.line X.env = pure false := by rfl) (hf : X.fn x = true ∨ X.env.scope.names.lookup x = some .local := by first | exact .inl rfl | exact .inr rfl) :
    SX X Γ cm W (.Assign [.Name x pos'] e pos) (sSet i a) := sx_set hN hi hx he hs hf
theorem zaug (i : Nat) {x : Str} {tpos : Pos} {op : Operator} {r : R2} {fo : D → D → Option RV} (hN : X.N.Nodup) (ho : OpR X (inplaceOp op) r) (hf : OpD X.K r fo) (he : EX X Γ e a) (hi : X.N[i]? = some x := by rfl) (hx : Loc X.env.scope x := by first | exact Or.inl rfl | exact Or.inr rfl) (hfn : X.fn x = true ∨ X.env.scope.names.lookup x = some .local := by first | exact .inl rfl | exact .inr rfl) :
    SX X Γ cm W (.AugAssign (.Name x tpos) op e pos) (sSet i (eBin fo (eVar i) a)) := sx_aug hN hi hx ho hf he hfn
theorem zg (i : Nat) {x : Str} (hN : X.N.Nodup) (hi : X.N[i]? = some x := by rfl) (hx : Loc X.env.scope x := by first | exact Or.inl rfl | exact Or.inr rfl) (hf : X.fn x = true ∨ X.env.scope.names.lookup x = some .local := by first | exact .inl rfl | exact .inr rfl) : GX X Γ (.Name x pos) (.nm i) := gx_nm hN hi hx hf
theorem zsetLc (own : List (Str × Nat)) (i : Nat) {elt tg iter : Expr} {ifs : List Expr} {scope : Scope} {spos py : Pos} {it : I} {g : Tg} {t : T} {f : E} {y : Str} (hc : X.calm = true) (hN : X.N.Nodup) (hk : X.env.scope.kind = .function)
    (hi : IX X Γ tg iter it) (ok : BlkOk X.N X.env.scope scope own)
    (hg : ∀ (s : Shared) (H : Hp) (C : Addr) (cl : List (Str × Addr)) (fp : List Addr), GX (X.blk s H scope (compEnvC scope cl C X.env) fp) Γ tg g) (ht : ∀ (s : Shared) (H : Hp) (C : Addr) (cl : List (Str × Addr)) (fp : List Addr), TsX (X.blk s H scope (compEnvC scope cl C X.env) fp) Γ ifs t)
    (he : ∀ (s : Shared) (H : Hp) (C : Addr) (cl : List (Str × Addr)) (fp : List Addr), EX (X.blk s H scope (compEnvC scope cl C X.env) fp) Γ elt f) (hv : ∀ i ∈ g.names, i ∈ own.map (·.2))
    (hy : X.N[i]? = some y := by rfl) (hyl : X.env.scope.names.lookup y = some .local := by rfl) (hl : (py.line == pos.line) = true := by rfl) (ha : (scope.names.any fun (n, k) => n == y && (k == .local || k == .cell)) = false := by decide +kernel) (hs : ∀ x, foldedSetIterable iter X.env x = pure x := by intro _; rfl) :
    SX X Γ cm W (.Assign [.Name y py] (.ListComp elt [⟨tg, iter, ifs, 0⟩] scope pos) spos) (sSet i (eLc it g t f (own.map (·.2)))) :=
  sx_setLc own hc hN hy hyl (sw_true hk hyl hl ha) hi ok hg ht he hv hs
theorem zsetO (i : Nat) {x : Str} {pos' : Pos} {a : EO} (hN : X.N.Nodup) (he : EXO X Γ cm W e a) (hi : X.N[i]? = some x := by rfl) (hx : Loc X.env.scope x := by first | exact Or.inl rfl | exact Or.inr rfl) (hs : swapsWith e (some (.Name x pos')) pos.line X.env = pure false := by rfl) (hf : X.fn x = true ∨ X.env.scope.names.lookup x = some .local := by first | exact .inl rfl | exact .inr rfl) :
    SX X Γ cm W (.Assign [.Name x pos'] e pos) (sSetO i a) := sx_setO hN hi hx he hs hf
end
theorem bt_len : bootBuiltins "len" = some (.builtin "len") := PySem.boot_len
theorem bt_abs : bootBuiltins "abs" = some (.builtin "abs") := by decide +kernel
theorem bt_max : bootBuiltins "max" = some (.builtin "max") := by decide +kernel
theorem bt_min : bootBuiltins "min" = some (.builtin "min") := by decide +kernel
theorem bt_sum : bootBuiltins "sum" = some (.builtin "sum") := by decide +kernel
theorem bt_all : bootBuiltins "all" = some (.builtin "all") := by decide +kernel
theorem bt_any : bootBuiltins "any" = some (.builtin "any") := by decide +kernel
theorem bt_sorted : bootBuiltins "sorted" = some (.builtin "sorted") := by decide +kernel
theorem bt_int : bootBuiltins "int" = some (.type "int") := by decide +kernel
theorem bt_bool : bootBuiltins "bool" = some (.type "bool") := by decide +kernel
theorem bt_list : bootBuiltins "list" = some (.type "list") := by decide +kernel
theorem bt_tuple : bootBuiltins "tuple" = some (.type "tuple") := by decide +kernel
theorem slot_index : PySem.Slot "list" "index" "list.index" := by first | exact PySem.F.slot_list_index | exact PySem.slot_list_index
theorem slot_popL : PySem.Slot "list" "pop" "list.pop" := by first | exact PySem.F.slot_list_pop | exact PySem.slot_list_pop
theorem slot_joinS : PySem.Slot "str" "join" "str.join" := by first | exact PySem.F.slot_str_join | exact PySem.slot_str_join
theorem slot_appendL : PySem.Slot "list" "append" "list.append" := PySem.F.slot_list_append
end PV
end

section
set_option maxRecDepth 100000
namespace PV
open PySem PySem.Spec PyProof.Rows L2
variable [CodeTabs]

section
variable {K : PySem.W.Frag} {φ : Act} {F H : Hp} {env env' : Env} {σ : St}
abbrev Act.on (φ : Act) (e : Option Ea) : Act := ⟨φ.F, φ.H, φ.io, e⟩
theorem noEx_get (h : noEx env = true) {i : Nat} {s : Slot} (e : env[i]? = some s) : ∀ c ds, s ≠ .ex c ds := fun c ds q => by
  subst q
  have := List.all_eq_true.mp h _ (List.mem_of_getElem? e)
  cases this
theorem Rel.onEa (r : Rel K φ F env σ H) (h : noEx env = true) (e : Option Ea) : Rel K (φ.on e) F env σ H := by
  refine ⟨r.sub, r.old, r.pres, r.new, fun i s es => ?_, r.dist, r.len, r.ioH, r.presT, r.tab, r.ntb, r.tre.move (.refl _) (fun i d e => ⟨e, rfl⟩) (fun i d v fp b e hv ht hb => ⟨(ht.mem hb).1, rfl, (ht.mem hb).2.1⟩) fun i d v fp j u a _ _ _ ej hu hj _ => ⟨u, ej, hu, hj⟩, r.ioA⟩
  have z := r.slot i s es
  have hn := noEx_get h es
  generalize σ[i]? = o at z
  cases z with
  | un => exact .un
  | fz h => exact .fz h
  | own h1 h2 h3 h4 => exact .own h1 h2 h3 h4
  | io h1 h2 h3 h4 => exact .io h1 h2 h3 h4
  | ex h1 h2 h3 => exact (hn _ _ rfl).elim
  | tre => exact .tre
theorem NoTre.ofEa {e : Option Ea} (r : Rel K (φ.on e) F env σ H) {a : Addr} (n : NoTre K (φ.on e) F H env σ a) (i : Nat) : NoTre K φ F H (env.set i .un) (σ.set i none) a :=
  (n.unset r i).move (r.unset i).tre (.refl _) (fun i d e => ⟨e, rfl⟩) fun i d v fp b e hv ht hb => ⟨(ht.mem hb).1, rfl, (ht.mem hb).2.1⟩
theorem Rel.ofEa {e : Option Ea} (r : Rel K (φ.on e) F env σ H) (h : noEx env = true) : Rel K φ F env σ H := by
  have := Rel.onEa r h φ.ea
  exact this
end

section
variable {K : PySem.W.Frag} {cm : CM} {φ : Act} {W : WX} {f h : S} {D : Ends} {σ : St} {H : Hp} {sel : Nat → Option Bool} {i : Nat} {cv : Value}
/-- the suite's reading: the exception at a, of the class cls, its dict d -/
def rSuite (K : PySem.W.Frag) (cm : CM) (φ : Act) (h : S) (a : Addr) (cls : Value) (d : Option Addr) : TS := fun D σ H =>
  ∃ c C names, cm[c]? = some (C, names) ∧ cls = .ref C ∧ rS K cm (φ.on (some ⟨a, c, cls, d, names⟩)) (fun _ _ _ _ => False) h D σ H
theorem rS_try (hsel : ∀ c C names b, cm[c]? = some (C, names) → sel c = some b → PySem.W.exmOne K (.ref C) cv = some b) (h0 : rS K cm φ W (sTry f sel i h) D σ H) :
    rS K cm φ (wAs K cv i (rSuite K cm φ h) W D) f D σ H := by
  obtain ⟨F, env, o, r0, e, k⟩ := h0
  unfold sTry at e
  split at e
  · cases e
  · rename_i c ds env1 ef
    split at e
    · cases e
    · -- another class
      rename_i es
      cases e
      refine ⟨F, env, _, r0, ef, fun F1 σ1 H1 cls d s1 r1 hx => ?_⟩
      obtain ⟨C, names, q1, q2, q3⟩ := hx
      subst q2
      exact ⟨false, hsel c C names _ q1 es, (fun z => nomatch z), fun _ => k F1 σ1 H1 _ d s1 r1 ⟨C, names, q1, rfl, q3⟩⟩
    · rename_i es
      split at e
      · rename_i hne
        split at e
        · cases e
        · rename_i env2 ep
          split at e
          · cases e
          · rename_i o2 eh
            refine ⟨F, env, _, r0, ef, fun F1 σ1 H1 cls d s1 r1 hx => ?_⟩
            obtain ⟨C, names, q1, q2, q3⟩ := hx
            subst q2
            refine ⟨true, hsel c C names _ q1 es, fun _ a ha => ?_, (fun z => nomatch z)⟩
            refine ⟨c, C, names, q1, rfl, F1, env2, o2, ?_, eh, ?_⟩
            · have r2 := r1.onEa hne (some ⟨a, c, .ref C, d, names⟩)
              exact r2.put ep (.ex (e := ⟨a, c, .ref C, d, names⟩) rfl rfl q3) (fun z => nomatch z) (fun z => nomatch z) (fun d z => nomatch z)
            · -- the ends
              cases o2 with
              | nxt e2 =>
                simp only [exitEx] at e
                split at e
                · rename_i hn2
                  cases e
                  exact fun F2 σ2 H2 s2 r2 => k F2 _ H2 (s1.trans s2) (Rel.ofEa (r2.unset i) hn2)
                · cases e
              | brk e2 =>
                simp only [exitEx] at e
                split at e
                · rename_i hn2
                  cases e
                  exact fun F2 σ2 H2 s2 r2 => k F2 _ H2 (s1.trans s2) (Rel.ofEa (r2.unset i) hn2)
                · cases e
              | cnt e2 =>
                simp only [exitEx] at e
                split at e
                · rename_i hn2
                  cases e
                  exact fun F2 σ2 H2 s2 r2 => k F2 _ H2 (s1.trans s2) (Rel.ofEa (r2.unset i) hn2)
                · cases e
              | ret q e2 =>
                simp only [exitEx] at e
                split at e
                · rename_i hn2
                  cases q with
                  | fz d2 =>
                    cases e
                    exact fun F2 σ2 H2 v s2 r2 g2 => k F2 _ H2 v (s1.trans s2) (Rel.ofEa (r2.unset i) hn2) g2
                  | own d2 =>
                    cases e
                    refine fun F2 σ2 H2 v s2 r2 g2 => k F2 _ H2 v (s1.trans s2) (Rel.ofEa (r2.unset i) hn2) ?_
                    obtain ⟨p, ho, z1, z2, z3, z4, z5, z6, z7⟩ := g2
                    refine ⟨p, ho, z1, z2, z3, z4, z5, fun j s es2 hs => ?_, NoTre.ofEa r2 z7 i⟩
                    rcases getElem?_setE es2 with ⟨rfl, rfl⟩ | ⟨ne, es3⟩
                    · cases hs
                    · rw [List.getElem?_set_ne ne]; exact z6 j s es3 hs
                  | tre d2 =>
                    cases e
                    refine fun F2 σ2 H2 v s2 r2 g2 => k F2 _ H2 v (s1.trans s2) (Rel.ofEa (r2.unset i) hn2) ?_
                    obtain ⟨fp, z1, z2⟩ := g2
                    refine ⟨fp, z1.move (.refl _) fun b hb => ⟨(z1.mem hb).1, rfl, (z1.mem hb).2.1⟩, fun a ha => ⟨fun j s es2 hs => ?_, NoTre.ofEa r2 (z2 a ha).2 i⟩⟩
                    rcases getElem?_setE es2 with ⟨rfl, rfl⟩ | ⟨ne, es3⟩
                    · cases hs
                    · rw [List.getElem?_set_ne ne]; exact (z2 a ha).1 j s es3 hs
                  | bor j =>
                    simp only at e
                    split at e
                    · cases e
                    · rename_i hj
                      cases e
                      refine fun F2 σ2 H2 v s2 r2 g2 => k F2 _ H2 v (s1.trans s2) (Rel.ofEa (r2.unset i) hn2) ?_
                      show (σ2.set i none)[j]? = _
                      rw [List.getElem?_set_ne (Ne.symm hj)]; exact g2
                · cases e
              | exc c2 ds2 e2 => simp only [exitEx] at e; cases e
      · cases e
  · rename_i o2 hn ef
    cases e
    refine ⟨F, env, _, r0, ef, ?_⟩
    cases o with
    | nxt e => exact k
    | brk e => exact k
    | cnt e => exact k
    | ret r e => exact k
    | exc c ds e => exact (hn _ _ _ rfl).elim
end
def GE (a : Addr) (c : Nat) (cls : Value) (d : Option Addr) (names : List Str) : Hp → Option Ea → Prop := fun _ e => e = some ⟨a, c, cls, d, names⟩
theorem pss_ex {X : Cx} {st : List Stmt} {α : Type} {t : α → TS} (h : ∀ p, PSs X st (t p)) : PSs X st (fun D σ H => ∃ p, t p D σ H) :=
  ⟨fun pins s σ H D I ⟨p, q⟩ => (h p).run pins s σ H D I q⟩
section
variable {X : Cx} {Γ : Hp → Option Ea → Prop} {cm : CM} {W : WX} {x n : Str} {cv : Value} {i : Nat} {body suite : List Stmt} {b₀ : Stmt} {np pos pos' : Pos} {f h : S} {sel : Nat → Option Bool}
theorem sx_try (i : Nat) (sel : Nat → Option Bool) (hs : X.stack = X.env :: X.outer) (hf : X.env.frame = some X.env.locals) (hN : X.N.Nodup) (hi : X.N[i]? = some n) (hln : X.env.kindOf n = some .local) (hc : Names X x cv) (tk : Takes X W)
    (hsel : ∀ c C names b, cm[c]? = some (C, names) → sel c = some b → PySem.W.exmOne X.K (.ref C) cv = some b)
    (hb : ∀ (W' : WX) (pn : List (Addr × Obj)) (xe : Value → Shared → Prop), Takes (X.tr pn xe) W' → PassesOwn (model X.prog X.w) X.A X.env xe → SsX (X.tr pn xe) Γ cm W' body f)
    (hh : ∀ (a : Addr) (oe : Obj) (C : Addr) (d : Option Addr) (pn : List (Addr × Obj)) (c : Nat) (names : List Str), cm[c]? = some (C, names) → Zc (.ref C) d oe → (∃ vs, oe.data = .fields vs) →
      SsX (X.suite a ((a, oe) :: pn)) (GE a c (.ref C) d names) cm (fun _ _ _ _ => False) (b₀ :: suite) h) :
    SX X Γ cm W (.Try body [.ExceptHandler (some (.Name x np)) (some n) (b₀ :: suite) pos'] [] [] pos) (sTry f sel i h) :=
  ⟨fun φ hφ => PS.weak (ps_try_as (i := i) (tb := fun W' => rS X.K cm φ W' f) (ts := rSuite X.K cm φ h) hs hf hN hi hln hc tk (fun W' pn xe tk' hp => (hb W' pn xe tk' hp).at' φ hφ)
    (fun a oe cls d pn hz hfd => ⟨fun pins s σ H D I ⟨c, C, names, q1, q2, q⟩ => by
      subst q2
      exact ((hh a oe C d pn c names q1 hz hfd).at' (φ.on (some ⟨a, c, .ref C, d, names⟩)) rfl).run pins s σ H D I q⟩)) fun D σ H q => rS_try hsel q⟩
end
end PV
end

section
set_option maxRecDepth 100000
namespace PV
open PySem PySem.Spec PyProof.Rows L2
variable [CodeTabs]

section
variable {K : PySem.W.Frag} {φ : Act} {F H H' : Hp} {env env' : Env} {σ : St}
/-- what is there stays, more is there -/
theorem Rel.grow2 (r : Rel K φ F env σ H) (s : ∀ b o, H b = some o → (∀ ps, o ≠ .tbl ps) → H' b = some o) (st : ∀ b ps, H b = some (.tbl ps) → ∃ qs, H' b = some (.tbl qs)) (tb : NdefX.TabsN CodeTabs.T H') : Rel K φ F env σ H' := by
  refine ⟨fun b o e => s _ _ (r.sub b o e) fun ps z => r.ntb b ps (by rw [e, z]), r.old, fun b o e1 e2 e3 => s _ _ (r.pres b o e1 e2 e3) e3, r.new, fun i t e => ?_, r.dist, r.len, fun a h => ?_, fun b ps e => ?_, tb, r.ntb,
    r.tre.move (.refl _) (fun i d e => ⟨e, rfl⟩) (fun i d v fp b e hv ht hb => by
      obtain ⟨q1, q2, ho, q3, q4, _⟩ := ht.mem hb
      exact ⟨q1, by rw [q3]; exact s _ _ q3 q4, q2⟩) fun i d v fp j u a _ _ _ ej hu hj _ => ⟨u, ej, hu, hj⟩, r.ioA⟩
  · have h := r.slot i t e
    generalize σ[i]? = o at h
    cases h with
    | un => exact .un
    | fz h => exact .fz h
    | own h1 h2 h3 h4 => exact .own (s _ _ h1 h2.ntbl) h2 h3 h4
    | io h1 h2 h3 h4 => exact .io h1 (s _ _ h2 h3.ntbl) h3 h4
    | ex h1 h2 h3 => exact .ex h1 h2 h3
    | tre => exact .tre
  · obtain ⟨o, q⟩ := r.ioH a h
    by_cases ht : ∃ ps, o = .tbl ps
    · obtain ⟨ps, rfl⟩ := ht
      obtain ⟨qs, z⟩ := st a ps q
      exact ⟨_, z⟩
    · exact ⟨o, s _ _ q fun ps z => ht ⟨ps, z⟩⟩
  · obtain ⟨qs, z⟩ := r.presT b ps e
    exact st b qs z
theorem Rel.growT (r : Rel K φ F env σ H) (s : ∀ b o, H b = some o → (∀ ps, o ≠ .tbl ps) → H' b = some o) {a : Addr} (n : NoTre K φ F H env σ a) : NoTre K φ F H' env σ a :=
  n.move r.tre (.refl _) (fun i d e => ⟨e, rfl⟩) fun i d v fp b e hv ht hb => by
    obtain ⟨q1, q2, ho, q3, q4, _⟩ := ht.mem hb
    exact ⟨q1, by rw [q3]; exact s _ _ q3 q4, q2⟩
theorem Rel.grow (r : Rel K φ F env σ H) (s : Same H H') : Rel K φ F env σ H' :=
  r.grow2 (fun b o e _ => s b o e) (fun b ps e => ⟨ps, s b _ e⟩) (r.tab.ext s)
/-- the dict of an exception that is made -/
theorem Rel.excDict (r : Rel K φ F env σ H) (s : Same H H') {d : Addr} {ho : HO} (hd : H d = none) (hd' : H' d = some ho) (hz : ∀ ps, ho ≠ .tbl ps := by intro ps q; cases q) : Same F (L2.upd F d ho) ∧ Rel K φ (L2.upd F d ho) env σ H' := by
  have hF : F d = none := Same.free r.sub hd
  exact ⟨upd_Same hF, (r.grow s).keepF hd' hF (r.actNone hd) (r.far hd) (r.growT (fun b o e _ => s b o e) (Rel.farT hd)) hz⟩
end

/-! ### an exception is made -/
/-- what __init__ of a class with these fields (the last one first) does -/
def spIni (K : PySem.W.Frag) (C : Addr) (names : List Str) : Sp := fun vs H Q _ => ∃ a ws, vs = .ref a :: ws ∧ ws.length = names.length ∧ H a = some (exo a C none) ∧
  ∀ (d : Addr) (H2 : Hp), H d = none → d ≠ a → (∀ b o, b ≠ a → H b = some o → H2 b = some o) → H2 a = some (exo a C (some d)) → H2 d = some (exd d (names.zip ws.reverse)) → Q .non H2
section
variable {P : Program} {w : World} {K : PySem.W.Frag} {mg : Str → Option Value} {base : Heap}
theorem ok_ini1 {fd0 qual : Str} {st : Stmt} {fI C : Addr} {fd : FuncData} {q1 q2 q3 q4 : Pos} (F : Fun K "__init__" qual st fI fd) (Sc : FnScope ["self", fd0] ["self", fd0] (defScope st)) (hb : defBody st = [.Assign [.Attribute (.Name "self" q1) fd0 q2] (.Name fd0 q3) q4])
    (hd : (fd0 == ("__debug__" : Str)) = false) (hcd : (fd0 == ("__classdict__" : Str)) = false)
    (hl : (defScope st).names.lookup fd0 = some .local) (hl0 : (defScope st).names.lookup ("self" : Str) = some .local)
    (hsw : ∀ (f : Addr) (cdv : Value) (s : Shared), swapsWith (.Name fd0 q3) (some (.Attribute (.Name "self" q1) fd0 q2)) q4.line (envOfC qual (defScope st) s.heap.objs.size f cdv) = pure false)
    (T : OexC K C) (hno : PySem.W.findIn K (.ref C) fd0 = some none) : FnOk P w K mg base (L2.CX P w) 1 fI fd ["self", fd0] (spIni K C [fd0]) := by
  refine F.okX (k := 0) Sc (fun vs H Q E h => ?_) (fun cdv A outer s H vs Q E hr h => ⟨tOst K fd0 (tVar 0) (tVar 1), ?_, ?_⟩)
  · obtain ⟨a, ws, rfl, hw, _⟩ := h
    simpa using hw
  · rw [hb]
    exact pss_one (ps_ost (pe_var (i := 0) rfl (.inl hl0)) (pe_var (i := 1) rfl (.inl hl) hd hcd) (hsw fI cdv s))
  · obtain ⟨a, ws, rfl, hw, ha, k⟩ := h
    match ws, hw with
    | [y], _ =>
      refine ⟨y, rfl, .ref a, rfl, a, C, rfl, T, hno, .inl ⟨ha, fun dx n ne => ?_⟩⟩
      refine k dx _ n ne (fun b o nb e => ?_) upd_same ?_
      · rw [upd_ne nb, upd_ne (ne_of_none e n)]; exact e
      · rw [upd_ne ne]; exact upd_same
end

section
variable {K : PySem.W.Frag} {cm : CM} {φ : Act} {W : WX} {D : Ends} {σ : St} {H : Hp} {es : EL} {c : Nat} {C : Addr} {names : List Str}
theorem rS_raise (hc : cm[c]? = some (C, names)) (hn : names.length ≤ 900) (hne : names ≠ []) (h : rS K cm φ W (sRaise c es) D σ H)
    (hl : ∀ env rs env1 ds env2, es env = some (rs, env1) → freezeAll rs env1 = some (ds, env2) → ds.length = names.length) :
    tMkO C (spIni K C names) [] (rA K φ es) σ H fun cls d H' => W cls d σ H' := by
  obtain ⟨F, env, o, r0, e, k⟩ := h
  unfold sRaise at e
  split at e
  · cases e
  · rename_i rs env1 ea
    refine ⟨F, env, rs, env1, r0, ea, fun F1 H1 vs s1 r1 h1 => ?_⟩
    split at e
    · cases e
    · rename_i ds env2 ef
      cases e
      obtain ⟨F2, s2, r2, g2⟩ := Rel.freezeAll r1 h1 ef
      have hlen : vs.length = names.length := by rw [← RL.length _ _ g2]; exact hl _ _ _ _ _ ea ef
      refine ⟨by omega, fun a ha => ?_⟩
      refine ⟨a, vs, by rw [List.append_nil], hlen, upd_same, fun d H2 n ne pres ea2 ed2 => ?_⟩
      have n1 : H1 d = none := by rw [upd_ne ne] at n; exact n
      refine ⟨rfl, d, _, ea2, ed2, n1, ?_⟩
      have old : Same H1 (L2.upd (del H2 a) d (.xd (names.zip vs.reverse))) := fun b o q => by
        have na : b ≠ a := ne_of_none q ha
        rw [upd_ne (ne_of_none q n1), del_ne na]
        exact pres b o na (by rw [upd_ne na]; exact q)
      obtain ⟨s3, r3⟩ := r2.excDict old n1 (ho := .xd (names.zip vs.reverse)) upd_same
      exact k _ σ _ _ (some d) (s1.trans (s2.trans s3)) r3 ⟨C, names, hc, rfl, .inr ⟨d, vs.reverse, rfl, upd_same, RL.reverse (RL.mono s3 _ _ g2), by simp [hlen]⟩⟩
end
section
variable {X : Cx} {Γ : Hp → Option Ea → Prop} {cm : CM} {W : WX}
theorem sx_raise {x : Str} {C fI : Addr} {k c : Nat} {fd : FuncData} {ps : List Str} {names : List Str} {e : Expr} {es : List Expr} {g : EL} {p pos pos2 : Pos} (hcalm : X.calm = true) (tk : Takes X W) (T : OexC X.K C)
    (iC : PySem.W.findIn X.K (.ref C) "__init__" = some (some (.ref fI))) (tI : PySem.W.typeIn X.K (.ref fI) = some (.type "function")) (F1 : FnOk X.prog X.w X.K X.mg X.base (L2.CX X.prog X.w) k fI fd ps (spIni X.K C names)) (hr : Room (k + 1) X.A) (hb : Binds X.K fd ps [])
    (hg : Gl X x) (hm : X.mg x = some (.ref C)) (hc : cm[c]? = some (C, names)) (hn : names.length ≤ 900) (hne : names ≠ []) (ha : AX X Γ (e :: es) g)
    (hl : ∀ env rs env1 ds env2, g env = some (rs, env1) → freezeAll rs env1 = some (ds, env2) → ds.length = names.length)
    (hdb : (x == ("__debug__" : Str)) = false := by decide) (he : starEach (e :: es) X.env = (false, eval e X.env) :: starEach es X.env := by rfl) (hpl : (backTo pos (starEach es X.env)).any (·.1) = false := by rfl) :
    SX X Γ cm W (.Raise (some (.Call (.Name x p) (e :: es) [] pos)) none pos2) (sRaise c g) :=
  ⟨fun φ hφ => PS.weak (ps_raise hcalm tk (pmk_oex T iC tI F1 hr hb .nil passL hg hm (ha.at' φ hφ) hdb he hpl)) fun D σ H h => rS_raise hc hn hne h hl⟩
/-- the length of what one argument gives -/
theorem len1 {f : E} : ∀ env rs env1 ds env2, eCons f eNil env = some (rs, env1) → freezeAll rs env1 = some (ds, env2) → ds.length = 1 := by
  intro env rs env1 ds env2 h1 h2
  unfold eCons at h1
  split at h1
  · cases h1
  · rename_i r e1 h
    simp only [eNil] at h1
    cases h1
    simp only [freezeAll] at h2
    split at h2
    · cases h2
    · rename_i d e2 h3
      cases h2; rfl
theorem zip_lookup {f : Str} : ∀ {names : List Str} {vs : List V} {k : Nat} {v : V}, names[k]? = some f → (∀ j, j < k → names[j]? ≠ some f) → vs[k]? = some v → (names.zip vs).lookup f = some v
  | [], _, _, _, h, _, _ => by simp at h
  | _ :: _, [], _, _, _, _, h => by simp at h
  | n :: ns, w :: vs, 0, v, h1, _, h3 => by
    simp at h1 h3; subst h1; subst h3
    simp [List.lookup]
  | n :: ns, w :: vs, k + 1, v, h1, h2, h3 => by
    have hne : ¬ n = f := by have := h2 0 (by omega); simpa using this
    have e : (f == n) = false := by simpa using fun q => hne q.symm
    show (((n, w) :: ns.zip vs).lookup f) = some v
    rw [List.lookup, e]
    exact zip_lookup (k := k) (by simpa using h1) (fun j hj => by have := h2 (j + 1) (by omega); simpa using this) (by simpa using h3)
theorem pe_no {e : Expr} {t : TE} (h : ∀ σ H Q, ¬ t σ H Q) : PE X e t := ⟨fun _ _ σ H Q _ q => (h σ H Q q).elim⟩
/-- what the slot of the caught exception tells -/
theorem ex_slot {K : PySem.W.Frag} {φ : Act} {F H : Hp} {env : Env} {σ : St} {a : Addr} {c c' : Nat} {cls : Value} {d : Option Addr} {names : List Str} {ds : List D} {i : Nat} (r : Rel K φ F env σ H) (hφ : φ.ea = some ⟨a, c, cls, d, names⟩) (e : env[i]? = some (.ex c' ds)) :
    σ[i]? = some (some (.ref a)) ∧ c' = c ∧ FldOk K F names ds d := by
  have z := r.slot i _ e
  generalize hσ : σ[i]? = o at z
  cases z with
  | ex h1 h2 h3 =>
    rw [hφ] at h1
    cases h1
    exact ⟨rfl, h2.symm, h3⟩
theorem ex_fld {a C : Addr} {oe : Obj} {d : Option Addr} {pn : List (Addr × Obj)} {c : Nat} {names : List Str} {n f : Str} {p pos : Pos} (i : Nat) (ix : Nat → Option Nat) (hz : Zc (.ref C) d oe) (hf : ∃ vs, oe.data = .fields vs) (hc : cm[c]? = some (C, names))
    (hT : ∀ c C names k, cm[c]? = some (C, names) → ix c = some k → XfC X.K C ∧ PySem.W.findIn X.K (.ref C) f = some none ∧ names[k]? = some f ∧ ∀ j, j < k → names[j]? ≠ some f)
    (hN : X.N[i]? = some n := by rfl) (hv : Vis X.env.scope n := by first | exact Or.inl rfl | exact Or.inr (Or.inl rfl) | exact Or.inr (Or.inr rfl)) (hd : (n == ("__debug__" : Str)) = false := by decide) (hcd : (n == ("__classdict__" : Str)) = false := by decide)
    (hb : attributeBase (.Name n p) f X.env (eval (.Name n p) X.env) = eval (.Name n p) X.env := by rfl) : EX (X.suite a ((a, oe) :: pn)) (GE a c (.ref C) d names) (.Attribute (.Name n p) f pos) (eExF i ix) :=
  ⟨fun φ hφ => by
    cases hk : ix c with
    | none =>
      refine pe_no fun σ H Q h => ?_
      obtain ⟨F, env, q, env', r0, e, k⟩ := h
      unfold eExF at e
      split at e
      · rename_i c' ds es
        obtain ⟨_, rfl, _⟩ := ex_slot r0 hφ es
        rw [hk] at e; cases e
      · cases e
    | some kk =>
      obtain ⟨T, hno, h1, h2⟩ := hT c C names kk hc hk
      refine PE.weak (pe_xf (X := X) (n := f) T hno hz hf (pe_var (i := i) hN hv hd hcd) hb) fun σ H Q h => ?_
      obtain ⟨F, env, q, env', r0, e, k⟩ := h
      unfold eExF at e
      split at e
      · rename_i c' ds es
        obtain ⟨hσ, rfl, hfo⟩ := ex_slot r0 hφ es
        simp only [hk] at e
        split at e
        · rename_i dv ed
          cases e
          rcases hfo with ⟨_, hnil, _⟩ | ⟨da, vs, q1, q2, q3, q4⟩
          · subst hnil; simp at ed
          · obtain ⟨v, ev, rv⟩ := RL.get q3 ed
            exact ⟨_, hσ, rfl, rfl, da, _, v, q1, r0.sub _ _ q2, zip_lookup h1 h2 ev, k F H v (.refl _) r0 rv⟩
        · cases e
      · cases e⟩
/-- isinstance of the exception that the suite holds -/
def rIsE2 (K : PySem.W.Frag) (C a : Addr) (d : Option Addr) : List V → Hp → VK → Prop := fun xs H Q => ∃ (c : V) (cv : Value) (b : Bool), xs = [.ref a, c] ∧ (∀ u, RelV c u → u = cv) ∧ PySem.W.kitOne K (.ref C) cv = some b ∧ (d = none ∨ ∃ dd fs, d = some dd ∧ H dd = some (.xd fs)) ∧ Q (.bl b) H
theorem call_isE2 {a C : Addr} {oe : Obj} {d : Option Addr} {pn : List (Addr × Obj)} (T : L2.ExcC X.K C) (hz : Zc (.ref C) d oe) (hf : ∃ vs, oe.data = .fields vs) : CallR (X.suite a ((a, oe) :: pn)) (.builtin "isinstance") (rIsE2 X.K C a d) := by
  intro pins s σ H xs us Q I r h
  obtain ⟨c, cv, b, rfl, hcv, e, hdd, q⟩ := h
  cases r with
  | cons rx rr =>
    cases rr with
    | cons rt rr =>
      cases rr
      cases rx
      have ec := hcv _ rt
      subst ec
      obtain ⟨hget, _⟩ := I.pin (a, oe) (List.mem_append.mpr (.inl List.mem_cons_self))
      obtain ⟨vs, hv⟩ := hf
      have hcl : (PySem.W.clsIn X.K C).isSome = true := by obtain ⟨cd, hc, _⟩ := PySem.W.any_some T.hd; rw [hc]; rfl
      have J : ∃ od, PySem.W.InstAt s.heap a oe C od := by
        rcases hdd with rfl | ⟨dd, fs, rfl, hdh⟩
        · exact ⟨none, hget, hz.1, by unfold PySem.W.notCls; rw [hv] <;> rfl, by rw [hz.2]; trivial⟩
        · obtain ⟨mA, hns, hr⟩ := I.hok dd _ hdh
          obtain ⟨od, ho, hl⟩ := lookIn_ns hns
          exact ⟨some od, hget, hz.1, by unfold PySem.W.notCls; rw [hv] <;> rfl, by rw [hz.2]; exact ho⟩
      obtain ⟨od, J⟩ := J
      exact PySem.W.kia_one (PySem.W.kitx_exc (ox := oe) (od := od) hcl T.hg T.hk T.hs T.ha T.hn T.ht T.hm) I.kIn J e (fun z => nomatch z) fun tk => ⟨.bl b, H, I.kept (t' := tk) fun _ _ z => z, rfl, q⟩
theorem ex_isE {a C : Addr} {oe : Obj} {d : Option Addr} {pn : List (Addr × Obj)} {c : Nat} {names : List Str} {n y : Str} {vc : V} {cv : Value} {p p1 p2 pos : Pos} (i : Nat) (t : Nat → Option Bool) (hz : Zc (.ref C) d oe) (hf : ∃ vs, oe.data = .fields vs) (hc : cm[c]? = some (C, names))
    (hg : Gl X "isinstance") (hm : X.mg "isinstance" = none) (hcls : PE (X.suite a ((a, oe) :: pn)) (.Name y p2) (tC vc)) (hcv : ∀ u, RelV vc u → u = cv)
    (hT : ∀ c C names b, cm[c]? = some (C, names) → t c = some b → L2.ExcC X.K C ∧ PySem.W.kitOne X.K (.ref C) cv = some b)
    (hN : X.N[i]? = some n := by rfl) (hv : Vis X.env.scope n := by first | exact Or.inl rfl | exact Or.inr (Or.inl rfl) | exact Or.inr (Or.inr rfl)) (hd : (n == ("__debug__" : Str)) = false := by decide) (hcd : (n == ("__classdict__" : Str)) = false := by decide)
    (he : starEach [.Name n p1, .Name y p2] X.env = (false, eval (.Name n p1) X.env) :: starEach [.Name y p2] X.env := by rfl) (he2 : starEach [.Name y p2] X.env = (false, eval (.Name y p2) X.env) :: starEach [] X.env := by rfl)
    (hpl : (backTo pos (starEach [.Name y p2] X.env)).any (·.1) = false := by rfl) : EX (X.suite a ((a, oe) :: pn)) (GE a c (.ref C) d names) (.Call (.Name "isinstance" p) [.Name n p1, .Name y p2] [] pos) (eExIs i t) :=
  ⟨fun φ hφ => by
    cases hk : t c with
    | none =>
      refine pe_no fun σ H Q h => ?_
      obtain ⟨F, env, q, env', r0, e, k⟩ := h
      unfold eExIs at e
      split at e
      · rename_i c' ds es
        obtain ⟨_, rfl, _⟩ := ex_slot r0 hφ es
        rw [hk] at e; cases e
      · cases e
    | some b =>
      obtain ⟨T, hkit⟩ := hT c C names b hc hk
      refine PE.weak (pe_callB (X := X.suite a ((a, oe) :: pn)) (call_isE2 (X := X) T hz hf) hg hm PyProof.Rows.boot_isinstance (pa_cons (pe_var (i := i) hN hv hd hcd) (pa_cons hcls pa_nil he2) he) (by decide) (by decide) he hpl) fun σ H Q h => ?_
      obtain ⟨F, env, q, env', r0, e, k⟩ := h
      unfold eExIs at e
      split at e
      · rename_i c' ds es
        obtain ⟨hσ, rfl, hfo⟩ := ex_slot r0 hφ es
        simp only [hk] at e
        cases e
        refine ⟨_, hσ, ?_⟩
        refine ⟨vc, cv, b, rfl, hcv, hkit, ?_, k F H _ (.refl _) r0 (by show R _ _ _ _; unfold R; rfl)⟩
        rcases hfo with ⟨_, _, hnil⟩ | ⟨da, vs, q1, q2, q3, q4⟩
        · exact .inl hnil
        · exact .inr ⟨da, _, q1, r0.sub _ _ q2⟩
      · cases e⟩
end
end PV
end

section
set_option maxRecDepth 100000
namespace PV
open PySem PySem.Spec PyProof.Rows L2
variable [CodeTabs]

/-! ### defs that are called within an except suite -/
structure FnQ (P : Program) (w : World) (K : PySem.W.Frag) (mg : Str → Option Value) (base : Heap) (T : CXT) (k : Nat) (f : Addr) (fd : FuncData) (ps : List Str) (sp : Sp) : Prop where
  len : ∀ vs H Q E, sp vs H Q E → vs.length = ps.length
  run : ∀ {A : Around} {outer : List PySem.Env} {s : Shared} {H : Hp} {args : Args} {us : List Value} {vs : List V} {Q : VK} {E : XK} (p : Addr × Obj), L2H.RoomH k A → L2H.PinOk outer H s p → Env0 P w K mg base A outer s H →
    BindsTo s fd args (ps.zip us) → Vals vs us → sp vs H Q E → codeAny (model P w) A (.call (.ref f) args) (CR T outer P w H s Q E) s
section
variable {P : Program} {w : World} {K : PySem.W.Frag} {mg : Str → Option Value} {base : Heap}
theorem fnQ_of {T : CXT} {x qual : Str} {st : Stmt} {f : Addr} {fd : FuncData} {N ps : List Str} {k : Nat} {sp : Sp} (Fn : Fun K x qual st f fd) (Sc : FnScope N ps (defScope st)) (len : ∀ vs H Q E, sp vs H Q E → vs.length = ps.length)
    (hbody : ∀ (cdv : Value) (A : Around) (outer : List PySem.Env) (s : Shared) (H : Hp) (vs : List V) (Q : VK) (E : XK) (p : Addr × Obj), L2H.RoomH k (A.deeper (envOfC qual (defScope st) s.heap.objs.size f cdv)) → sp vs H Q E →
      ∃ t, PSs (L2H.cxH T P w K mg base N qual (defScope st) f cdv A outer s H E p) (defBody st) t ∧ t { nx := fun _ H' => Q .non H', rt := Q } (L2.start N vs) H) : FnQ P w K mg base T (k + 1) f fd ps sp := by
  obtain ⟨oc, od, kV, doc, pm, an, cdv, ct, osl, rfl, lk, hcd⟩ := Fn.ex
  refine ⟨len, ?_⟩
  intro A outer s H args us vs Q E p hr hpin e0 hb r hsp
  have keep : ∀ b o, base.get? b = some o → s.heap.get? b = some o := fun b o e => (e0.bs b o e).1
  have par : ∀ y ∈ ps.zip us, (defScope st).names.lookup y.1 = some .local ∨ ((defScope st).names.lookup y.1 = some .cell ∧ ((cellsFrom (s.heap.objs.size + 1) (defScope st).names []).lookup y.1).isSome = true) := by
    rintro ⟨n, v⟩ hy
    refine (Sc.par n (List.of_mem_zip hy).1).imp id fun q => ⟨q, ?_⟩
    exact PySem.W.cellsFrom_some _ _ _ (.inl q)
  refine codeAny_call_function hr.depth ((e0.mod.kin.keeps keep) _ _ lk) rfl Sc.co Sc.gen rfl (PySem.W.codeRec_of (e0.mod.kin.keeps keep) hcd) (hb _ _ _ _ (wpAny_newFunctionEnv_cells Sc.kind par fun env he s1 x => ?_))
  subst he
  refine ⟨(e0.mod.nolimit.keeps keep).keeps x.toInCall.keep, codeAny_func ?_⟩
  obtain ⟨t, ht, hq⟩ := hbody cdv A outer s H vs Q E p (hr.deeper _) hsp
  have I0 := L2H.inv_startH (CX := T) (E := E) Sc hpin e0 (len _ _ _ _ hsp) r x
  refine wpAny_mono (ht.run [] s1 (L2.start N vs) H _ I0 hq) (fun fl s' hs => ?_) fun e s' hs => hs
  cases fl with
  | ret u => obtain ⟨v, σ', H', J, rv, q⟩ := hs; exact ⟨v, H', J.os, J.bare, J.base, J.hok, rv, q⟩
  | next => obtain ⟨σ', H', J, q⟩ := hs; exact ⟨V.non, H', J.os, J.bare, J.base, J.hok, rfl, q⟩
  | brk => obtain ⟨_, _, _, q⟩ := hs; exact q.elim
  | cont => obtain ⟨_, _, _, q⟩ := hs; exact q.elim
end
section
variable {X : Cx} {T : CXT} {k : Nat} {f : Addr} {fd : FuncData} {ps : List Str} {sp : Sp} {E : St → XK} {x : Str} {q pos : Pos} {e : Expr} {es : List Expr} {t : TA}
theorem pe_callQ (F : FnQ X.prog X.w X.K X.mg X.base T k f fd ps sp) (hr : L2H.RoomH k X.A) (hp : ∃ p, p ∈ X.pn) (hg : Gl X x) (hm : X.mg x = some (.ref f)) (hk : PySem.W.keepIn X.K (.ref f) = true) (hb : Binds X.K fd ps []) (hx : ∀ σ, PassesAt T X σ (E σ))
    (ha : PA X (e :: es) t) (hdb : (x == ("__debug__" : Str)) = false) (he : starEach (e :: es) X.env = (false, eval e X.env) :: starEach es X.env) (hpl : (backTo pos (starEach es X.env)).any (·.1) = false) :
    PE X (.Call (.Name x q) (e :: es) [] pos) (tCallS sp E t) := by
  constructor
  intro pins s σ H Q I h
  refine wpAny_Call_Name_kw (ld_glob I hg hm (PySem.W.callWith_K (h₀ := X.base) I.ok.mod.kin hk (thn (ha.run pos pins s σ H _ I h) fun us s1 hh => ?_) he hpl) hdb)
  obtain ⟨vs, H1, I1, r, hq⟩ := hh
  refine ⟨I1.kIn, ?_⟩
  obtain ⟨p, hp⟩ := hp
  have hl : us.length = ps.length := r.length.symm.trans (F.len _ _ _ _ hq)
  have b := hb s1 us I1.kIn (by rw [List.append_nil]; exact hl)
  rw [List.append_nil] at b
  obtain ⟨p1, p2, p3, p4, p5⟩ := I1.pin p (List.mem_append_left _ hp)
  have hpin : L2H.PinOk X.stack H1 s1 p := ⟨p1, p2, fun hm => (List.mem_cons.mp (I1.stkSub p.1 hm)).elim p3 p4, p5⟩
  refine wpAny_call (codeAny_mono (F.run (args := ⟨us, []⟩) p hr hpin I1.env0 b r hq) fun res s' hres => ?_)
  cases res with
  | error er => exact hx σ pins H1 s1 er s' I1 hres
  | ok fl =>
    cases fl with
    | ret u => exact I1.after hres
    | next => exact hres.elim
    | brk => exact hres.elim
    | cont => exact hres.elim
end

section
theorem fn_read {X : Cx} {N ps : List Str} {sc : Scope} {st : List Stmt} {cm : CM} {body : S} {vs : List V} {H : Hp} {Q : VK} {E : XK} (S : FnScope N ps sc) (hbody : SsX X (fun _ _ => True) cm (fun cls d _ H => E cls d H) st body)
    (h : spF X.K cm ps.length (fnOf N.length body) vs H Q E) : ∃ t, PSs X st t ∧ t { nx := fun _ H' => Q .non H', rt := Q } (L2.start N vs) H := by
  obtain ⟨F, as, io, res, hn, sF, tb, ha, nd, hG, hq⟩ := h
  have hpl : as.length ≤ N.length := by
    have := congrArg List.length S.pre
    rw [List.length_take] at this
    omega
  have r0 := startRel (N := N) sF tb ha nd hpl
  refine ⟨_, hbody.at' ⟨F, H, io, none⟩ trivial, F, argSlots 0 as ++ List.replicate (N.length - as.length) .un, ?_⟩
  unfold fnOf at hG
  have post : ∀ {F' H' : Hp} {env' : Env} {σ' : St} {outs : List D}, Rel X.K ⟨F, H, io, none⟩ F' env' σ' H' → outsOf 0 as env' = some outs → Post X.K F H io outs F' H' := fun {F' H' env' σ' outs} r e =>
    ⟨r.old, r.sub, r.new, r.pres, outs_ok r as [] io vs env' 0 ha rfl (fun i => by simp) e, r.presT, r.tab, r.ntb⟩
  split at hG
  · rename_i env' eb
    split at hG
    · cases hG
    · rename_i outs eo
      cases hG
      exact ⟨_, r0, eb, fun F' σ' H' s' r' => hq F' H' _ (post r' eo) (by show R _ _ _ _; unfold R; rfl)⟩
  · rename_i q env' eb
    split at hG
    · rename_i q' outs eh eo
      cases hG
      refine ⟨_, r0, eb, fun F' σ' H' v s' r' h' => hq F' H' v (post r' eo) ?_⟩
      cases q with
      | fz d => unfold handed at eh; cases eh; exact h'
      | own d =>
        unfold handed at eh; cases eh
        obtain ⟨a, ho, e1, h1, h2, h3, h4, _⟩ := h'
        exact ⟨a, ho, e1, h1, h2, h3, h4⟩
      | tre d =>
        unfold handed at eh; cases eh
        obtain ⟨fp, h1, _⟩ := h'
        exact ⟨fp, h1.move (.refl _) fun b hb => ⟨(h1.mem hb).1, rfl, (h1.mem hb).2.1⟩⟩
      | bor i =>
        have h' : σ'[i]? = some (some v) := h'
        simp only [handed] at eh
        split at eh
        · rename_i d es
          cases eh
          have z := r'.slot _ _ es
          rw [h'] at z
          cases z with
          | own h1 h2 h3 h4 => exact ⟨_, _, rfl, h1, h2, h3, h4⟩
        · rename_i d es
          cases eh
          have z := r'.slot _ _ es
          rw [h'] at z
          cases z with
          | fz z => exact z
        · rename_i d es
          cases eh
          obtain ⟨v2, fp, g1, g2, _⟩ := r'.tre _ _ es
          rw [h'] at g1; cases g1
          exact ⟨fp, g2.move (.refl _) fun b hb => ⟨(g2.mem hb).1, rfl, (g2.mem hb).2.1⟩⟩
        · cases eh
    · cases hG
  · rename_i c ds env' eb
    split at hG
    · cases hG
    · rename_i outs eo
      cases hG
      exact ⟨_, r0, eb, fun F' σ' H' cls d s' r' h' => hq F' H' cls d (post r' eo) h'⟩
  · cases hG

theorem fnQ_ok {P : Program} {w : World} {K : PySem.W.Frag} {mg : Str → Option Value} {base : Heap} {x qual : Str} {st : Stmt} {f : Addr} {fd : FuncData} {N ps : List Str} {k : Nat} {cm : CM} {body : S} (Fn : Fun K x qual st f fd) (S : FnScope N ps (defScope st))
    (hbody : ∀ (cdv : Value) (A : Around) (outer : List PySem.Env) (s : Shared) (H : Hp) (E : XK) (p : Addr × Obj), L2H.RoomH k (A.deeper (envOfC qual (defScope st) s.heap.objs.size f cdv)) →
      SsX (L2H.cxH (L2.CX P w) P w K mg base N qual (defScope st) f cdv A outer s H E p) (fun _ _ => True) cm (fun cls d _ H => E cls d H) (defBody st) body) :
    FnQ P w K mg base (L2.CX P w) (k + 1) f fd ps (spF K cm ps.length (fnOf N.length body)) := by
  refine fnQ_of Fn S (fun vs H Q E h => ?_) (fun cdv A outer s H vs Q E p hr h => fn_read S (hbody cdv A outer s H E p hr) h)
  obtain ⟨F, as, io, res, hn, _, _, ha, _⟩ := h
  rw [← ha.len, hn]
end
section
variable {X : Cx} {Γ : Hp → Option Ea → Prop} {cm : CM} {W : WX} {k n : Nat} {f : Addr} {fd : FuncData} {ps : List Str} {G : Fn} {x : Str} {p pos : Pos} {a : Expr} {es : List Expr} {g : EL}
theorem ex_callQ (ms : List Bool) (F : FnQ X.prog X.w X.K X.mg X.base (L2.CX X.prog X.w) k f fd ps (spF X.K cm n G)) (hr : L2H.RoomH k X.A) (hp : ∃ p, p ∈ X.pn) (hg : Gl X x) (hm : X.mg x = some (.ref f)) (hk : PySem.W.keepIn X.K (.ref f) = true) (hb : Binds X.K fd ps [])
    (hn : ms.length = n) (ha : AX X Γ (a :: es) g) (hdb : (x == ("__debug__" : Str)) = false := by decide) (he : starEach (a :: es) X.env = (false, eval a X.env) :: starEach es X.env := by rfl) (hpl : (backTo pos (starEach es X.env)).any (·.1) = false := by rfl) :
    EX X Γ (.Call (.Name x p) (a :: es) [] pos) (eCall G ms g) :=
  ⟨fun φ hφ => PE.weak (pe_callQ (E := fun _ => E0) F hr hp hg hm hk hb (fun σ pins H s e s' I h => passL pins σ H s e s' I h) (ha.at' φ hφ) hdb he hpl) fun σ H Q h => by
    obtain ⟨F, env, rs, env', r0, e, kk⟩ := rE_call (cm := cm) hn h
    exact ⟨F, env, rs, env', r0, e, fun F' H' vs s' r' h' => kk F' H' vs s' r' h'⟩⟩
end
end PV
end

section
set_option maxRecDepth 100000
namespace PV
open PySem PySem.Spec PyProof.Rows L2
variable [CodeTabs]
theorem roomS {k : Nat} {A : Around} {h : Option Value} (hr : Room k A) : L2H.RoomH k (A.mark h) := ⟨hr.dp, hr.un⟩
/-- what holds of each class -/
def AllB (P : Addr → Bool → Prop) : CM → List Bool → Prop
  | [], _ => True
  | (C, _) :: r, b :: bs => P C b ∧ AllB P r bs
  | _ :: _, [] => True
theorem sel_of {cm : CM} {P : Addr → Bool → Prop} : ∀ {cm : CM} {bs : List Bool}, AllB P cm bs → ∀ (c : Nat) (C : Addr) (names : List Str) (b : Bool), cm[c]? = some (C, names) → bs[c]? = some b → P C b
  | [], _, _, c, C, names, b, h, _ => by simp at h
  | (C, n) :: r, [], _, c, _, _, b, _, h => by simp at h
  | (C, n) :: r, b0 :: bs, h, 0, _, _, b, h1, h2 => by
    simp at h1 h2; obtain ⟨rfl, rfl⟩ := h1; subst h2; exact h.1
  | (C, n) :: r, b0 :: bs, h, c + 1, D, m, b, h1, h2 => sel_of (cm := cm) h.2 c D m b (by simpa using h1) (by simpa using h2)
def AllF (P : Addr → List Str → Nat → Prop) : CM → List (Option Nat) → Prop
  | [], _ => True
  | (C, n) :: r, some k :: bs => P C n k ∧ AllF P r bs
  | _ :: r, none :: bs => True ∧ AllF P r bs
  | _ :: _, [] => True
theorem fld_of {P : Addr → List Str → Nat → Prop} : ∀ {cm : CM} {bs : List (Option Nat)}, AllF P cm bs → ∀ (c : Nat) (C : Addr) (names : List Str) (k : Nat), cm[c]? = some (C, names) → bs.getD c none = some k → P C names k
  | [], _, _, c, C, names, b, h, _ => by simp at h
  | (C, n) :: r, [], _, c, _, _, b, _, h => by simp at h
  | (C, n) :: r, some k0 :: bs, h, 0, _, _, b, h1, h2 => by
    simp at h1 h2; obtain ⟨rfl, rfl⟩ := h1; subst h2; exact h.1
  | (C, n) :: r, none :: bs, h, 0, _, _, b, h1, h2 => by simp at h2
  | (C, n) :: r, some k0 :: bs, h, c + 1, D, m, b, h1, h2 => fld_of h.2 c D m b (by simpa using h1) (by simpa using h2)
  | (C, n) :: r, none :: bs, h, c + 1, D, m, b, h1, h2 => fld_of h.2 c D m b (by simpa using h1) (by simpa using h2)
/-- a class that is made -/
structure ClsX (K : PySem.W.Frag) (mg : Str → Option Value) (x : Str) (C fI : Addr) : Prop where
  mg : mg x = some (.ref C)
  ox : OexC K C
  ini : PySem.W.findIn K (.ref C) "__init__" = some (some (.ref fI))
  tyI : PySem.W.typeIn K (.ref fI) = some (.type "function")
/-- a def that comes to its end without an exception -/
def spOk (K : PySem.W.Frag) (n : Nat) (G : Fn) : Sp := fun vs H Q E => ∃ F as io r outs, as.length = n ∧ Same F H ∧ (NdefX.TabsN CodeTabs.T H ∧ NoTbl F) ∧ ArgsOk K F H as vs io ∧ io.Nodup ∧ G as = some (.ok r outs) ∧ rR K [] F H io Q E (.ok r outs)
theorem fn_weak {P : Program} {w : World} {K : PySem.W.Frag} {mg : Str → Option Value} {base : Heap} {T : CXT} {k : Nat} {f : Addr} {fd : FuncData} {ps : List Str} {sp sp' : Sp} (F : FnOk P w K mg base T k f fd ps sp) (h : ∀ vs H Q E, sp' vs H Q E → sp vs H Q E) : FnOk P w K mg base T k f fd ps sp' :=
  ⟨fun vs H Q E q => F.len vs H Q E (h _ _ _ _ q), fun A outer s H args us vs Q E hr e0 hb r q => F.run A outer s H args us vs Q E hr e0 hb r (h _ _ _ _ q)⟩
theorem sp_ok {K : PySem.W.Frag} {cm : CM} {n : Nat} {G : Fn} {vs : List V} {H : Hp} {Q : VK} {E : XK} (h : spOk K n G vs H Q E) : spF K cm n G vs H Q E := by
  obtain ⟨F, as, io, r, outs, h1, h2, h3, h4, h5, h6, h7⟩ := h
  exact ⟨F, as, io, _, h1, h2, h3, h4, h5, h6, h7⟩
theorem kit_ref {K : PySem.W.Frag} {X C : Addr} {b : Bool} (h1 : PySem.W.hasDictIn K C = true) (h2 : PySem.W.typeIn K (.ref C) = some (.type "type")) (hs : PySem.W.subIn K (.ref X) (.ref X) = some true) (h3 : PySem.W.subIn K (.ref X) (.ref C) = some b) : PySem.W.kitOne K (.ref X) (.ref C) = some b := by
  obtain ⟨cd, hc, _⟩ := PySem.W.any_some h1
  unfold PySem.W.kitOne
  by_cases q : ((Value.ref X) == (Value.ref C)) = true
  · rw [if_pos q]
    have e := beq_iff_eq.mp q
    rw [← e, hs] at h3
    exact h3
  · rw [if_neg q]
    have e2 : ((PySem.W.clsIn K C).isSome && PySem.W.typeIn K (.ref C) == some (.type "type")) = true := by rw [hc, h2]; rfl
    show (if ((PySem.W.clsIn K C).isSome && PySem.W.typeIn K (.ref C) == some (.type "type")) = true then PySem.W.subIn K (.ref X) (.ref C) else none) = some b
    rw [if_pos e2]; exact h3
theorem kit_ve {K : PySem.W.Frag} {X : Addr} (h3 : PySem.W.subIn K (.ref X) (.type "ValueError") = some true) : PySem.W.kitOne K (.ref X) (.type "ValueError") = some true := by
  unfold PySem.W.kitOne
  by_cases q : ((Value.ref X) == (Value.type "ValueError")) = true
  · rw [if_pos q]
  · rw [if_neg q]
    have e : PySem.W.kitMeta "ValueError" = true := by decide +kernel
    show (if PySem.W.kitMeta "ValueError" = true then PySem.W.subIn K (.ref X) (.type "ValueError") else none) = some true
    rw [if_pos e]; exact h3
end PV
end

section
set_option maxRecDepth 100000
namespace PV
open PySem PySem.Spec PyProof.Rows L2
variable [CodeTabs]
section
variable {K : PySem.W.Frag} {φ : Act} {F F' H H' : Hp} {env env' : Env} {σ : St}
theorem ItmsOk.seen {F2 : Hp} (s : Same F F2) {ds : List D} {ws : List V} {ls : List Addr} (h : ItmsOk K φ F H ds ws ls) (k : ∀ b, b ∈ ls → F2 b = H b) : RL K F2 ds ws := by
  induction h with
  | nil => exact RL.nil
  | cons h t ih =>
    refine RL.cons ?_ (ih fun b hb => k b (List.mem_append_right _ hb))
    rcases h with ⟨es, b', ws', rfl, rfl, g1, g2, g3, g4, rfl⟩ | ⟨h1, h2, rfl⟩
    · exact R.of_obj (ho := .lst ws') (d := .lst es) (by rw [k b' (by simp)]; exact g1) (RL.mono s _ _ g4)
    · exact R.mono s _ _ h2
theorem TreV.seen {F2 : Hp} (s : Same F F2) {d : D} {v : V} {fp : List Addr} (h : TreV K φ F H d v fp) (k : ∀ b, b ∈ fp → F2 b = H b) : R K F2 d v := by
  obtain ⟨a, ds, vs, ho, ls, rfl, h1, h2, h4, h5, h3, rfl, h6⟩ := h
  have g := h3.seen s fun b hb => k b (List.mem_cons_of_mem _ hb)
  have ha := (k a List.mem_cons_self).trans h1
  rcases h2 with ⟨rfl, rfl⟩ | ⟨rfl, rfl⟩
  · unfold R; exact ⟨a, vs, rfl, ha, g⟩
  · unfold R; exact ⟨a, vs, rfl, ha, g⟩
/-- all that the first n slots hold lies in F1 -/
theorem Rel.frzN (r : Rel K φ F env σ H) : ∀ n : Nat, ∃ F1, Same F F1 ∧ (Same F1 H ∧ NoTbl F1) ∧ (∀ (i : Nat) (s : Slot) (d : D) (a : Addr), i < n → env[i]? = some s → s.held = true → s.d? = some d → σ[i]? = some (some (.ref a)) → R K F1 d (.ref a)) ∧
    ∀ (i : Nat) (d : D) (v : V), i < n → env[i]? = some (.tre d) → σ[i]? = some (some v) → R K F1 d v
  | 0 => ⟨F, .refl _, ⟨r.sub, r.ntb⟩, fun _ _ _ _ h => absurd h (Nat.not_lt_zero _), fun _ _ _ h => absurd h (Nat.not_lt_zero _)⟩
  | n + 1 => by
    obtain ⟨F1, s1, s2, h, hT⟩ := Rel.frzN r n
    have step : ∃ F2, Same F1 F2 ∧ (Same F2 H ∧ NoTbl F2) ∧ (∀ (s : Slot) (d : D) (a : Addr), env[n]? = some s → s.held = true → s.d? = some d → σ[n]? = some (some (.ref a)) → R K F2 d (.ref a)) ∧
        ∀ (d : D) (v : V), env[n]? = some (.tre d) → σ[n]? = some (some v) → R K F2 d v := by
      cases hs : env[n]? with
      | none => exact ⟨F1, .refl _, s2, (fun _ _ _ e => nomatch e), (fun _ _ e => nomatch e)⟩
      | some s =>
        have z := r.slot n s hs
        generalize hσ : σ[n]? = o at z
        have key : ∀ (a : Addr) (ho : HO) (d : D), H a = some ho → ObjR K F ho d → ∃ F2, Same F1 F2 ∧ (Same F2 H ∧ NoTbl F2) ∧ R K F2 d (.ref a) := fun a ho d h1 h2 => by
          cases hF : F1 a with
          | none => exact ⟨L2.upd F1 a ho, upd_Same hF, ⟨PV.Same.upd_l h1 s2.1, s2.2.upd h2.ntbl⟩, R.of_obj upd_same ((h2.mono s1).mono (upd_Same hF))⟩
          | some ho' =>
            have e := s2.1 _ _ hF
            rw [h1] at e; cases e
            exact ⟨F1, .refl _, s2, R.of_obj hF (h2.mono s1)⟩
        cases z with
        | un => exact ⟨F1, .refl _, s2, (fun t d a e hh => by cases e; cases hh), (fun d v e => by cases e)⟩
        | fz _ => exact ⟨F1, .refl _, s2, (fun t d a e hh => by cases e; cases hh), (fun d v e => by cases e)⟩
        | ex _ _ _ => exact ⟨F1, .refl _, s2, (fun t d a e hh => by cases e; cases hh), (fun d v e => by cases e)⟩
        | @tre d0 _ =>
          obtain ⟨v0, fp, g1, g2, _⟩ := r.tre n d0 hs
          refine ⟨fun b => if b ∈ fp then H b else F1 b, fun b o e => ?_, ⟨fun b o e => ?_, fun b ps e => ?_⟩, (fun t d a e hh => by cases e; cases hh), (fun d v e hv => ?_)⟩
          · show (if b ∈ fp then H b else F1 b) = some o
            split
            · exact s2.1 _ _ e
            · exact e
          · have e : (if b ∈ fp then H b else F1 b) = some o := e
            split at e
            · exact e
            · exact s2.1 _ _ e
          · have e : (if b ∈ fp then H b else F1 b) = some (.tbl ps) := e
            split at e
            · rename_i hb
              obtain ⟨_, _, ho, q3, q4, _⟩ := g2.mem hb
              rw [q3] at e; cases e
              exact q4 _ rfl
            · exact s2.2 _ _ e
          · cases e
            rw [hσ] at g1
            cases g1
            cases hv
            refine g2.seen (fun b o e => ?_) fun b hb => if_pos hb
            show (if b ∈ fp then H b else F1 b) = some o
            split
            · exact r.sub _ _ e
            · exact s1 _ _ e
        | own h1 h2 h3 h4 =>
          obtain ⟨F2, g1, g2, g3⟩ := key _ _ _ h1 h2
          exact ⟨F2, g1, g2, (fun t d a e hh hd ha => by cases e; cases hd; cases ha; exact g3), (fun d v e => by cases e)⟩
        | io h1 h2 h3 h4 =>
          obtain ⟨F2, g1, g2, g3⟩ := key _ _ _ h2 h3
          exact ⟨F2, g1, g2, (fun t d a e hh hd ha => by cases e; cases hd; cases ha; exact g3), (fun d v e => by cases e)⟩
    obtain ⟨F2, g1, g2, g3, g4⟩ := step
    refine ⟨F2, s1.trans g1, g2, fun i s d a hi e hh hd ha => ?_, fun i d v hi e hv => ?_⟩
    · by_cases q : i = n
      · subst q; exact g3 s d a e hh hd ha
      · exact R.mono g1 _ _ (h i s d a (by omega) e hh hd ha)
    · by_cases q : i = n
      · subst q; exact g4 d v e hv
      · exact R.mono g1 _ _ (hT i d v (by omega) e hv)
theorem Rel.frz (r : Rel K φ F env σ H) : ∃ F1, Same F F1 ∧ Rel K ⟨F1, H, [], φ.ea⟩ F1 (env.map frzS) σ H := by
  obtain ⟨F1, s1, s2, h, hT⟩ := r.frzN env.length
  refine ⟨F1, s1, s2.1, .refl _, fun b o e _ _ => e, fun b o e => .inl e, fun i s e => ?_, fun i j s t a _ ei _ hs => ?_, by rw [List.length_map]; exact r.len, fun a ha => (nomatch ha), fun b ps e => ⟨ps, e⟩, r.tab, s2.2, fun i d e => ?_, fun a ha => (nomatch ha)⟩
  · rw [List.getElem?_map] at e
    cases hs : env[i]? with
    | none => rw [hs] at e; cases e
    | some t =>
      rw [hs] at e
      cases e
      have hi : i < env.length := (List.getElem?_eq_some_iff.mp hs).1
      have z := r.slot i t hs
      generalize hσ : σ[i]? = o at z
      cases z with
      | un => exact .un
      | fz g => exact .fz (R.mono s1 _ _ g)
      | ex g1 g2 g3 => exact .ex g1 g2 (g3.mono s1)
      | own h1 h2 h3 h4 => exact .fz (h i _ _ _ hi hs rfl rfl hσ)
      | io h1 h2 h3 h4 => exact .fz (h i _ _ _ hi hs rfl rfl hσ)
      | tre =>
        obtain ⟨v0, fp, g1, g2, _⟩ := r.tre i _ hs
        have := hT i _ v0 hi hs g1
        rw [hσ] at g1; cases g1
        exact .fz this
  · rw [List.getElem?_map] at ei
    cases hs' : env[i]? with
    | none => rw [hs'] at ei; cases ei
    | some t =>
      rw [hs'] at ei
      cases ei
      cases t <;> cases hs
  · rw [List.getElem?_map] at e
    cases hs' : env[i]? with
    | none => rw [hs'] at e; cases e
    | some t =>
      rw [hs'] at e
      cases t <;> simp [frzS] at e
theorem R.scalF {d : D} {v : V} (hd : d.scal = true) (h : R K F' d v) : R K F d v := by
  cases d <;> first | (unfold R at h ⊢; exact h) | cases hd
theorem RL.scalF : ∀ {ds : List D} {vs : List V}, ds.all D.scal = true → RL K F' ds vs → RL K F ds vs
  | [], _, _, h => by unfold RL at h ⊢; exact h
  | d :: ds, _, hd, h => by
    unfold RL at h ⊢
    obtain ⟨v, r, e, h1, h2⟩ := h
    simp only [List.all_cons, Bool.and_eq_true] at hd
    exact ⟨v, r, e, R.scalF hd.1 h1, RL.scalF hd.2 h2⟩
end
section
variable {X : Cx} {Γ : Hp → Option Ea → Prop} {e : Expr} {f : E}
theorem ex_pure (hΓ : ∀ F F' a, Γ F a → Γ F' a) (h : EX X Γ e f) : EX X Γ e (ePure f) :=
  ⟨fun φ hφ => ⟨fun pins s σ H Q I q => by
    obtain ⟨F, env, r, env', r0, ee, k⟩ := q
    unfold ePure at ee
    split at ee
    · rename_i r' env2 ef
      split at ee
      · rename_i hfl
        cases ee
        obtain ⟨F1, s1, r1⟩ := r0.frz
        refine (h.at' ⟨F1, H, [], φ.ea⟩ (hΓ _ _ _ hφ)).run pins s σ H Q I ⟨F1, _, r, env2, r1, ef, fun F2 H2 v s2 r2 g2 => ?_⟩
        have hH : ∀ b o, H b = some o → (∀ ps, o ≠ .tbl ps) → H2 b = some o := fun b o e e3 => r2.pres b o e (List.not_mem_nil) e3
        refine k F H2 v (.refl _) (r0.grow2 hH r2.presT r2.tab) ?_
        cases r with
        | fz d => exact R.scalF hfl g2
        | bor i => cases hfl
        | tre d => cases hfl
        | own d =>
          cases d with
          | lst ds =>
            obtain ⟨p, ho, z1, z2, z3, z4, z5, z6⟩ := g2
            have z5 : H p = none := z5
            refine ⟨p, ho, z1, z2, ?_, ?_, r0.actNone z5, r0.far z5, r0.growT hH (Rel.farT z5)⟩
            · cases ho with
              | lst vs => exact RL.scalF hfl z3
              | _ => exact z3.elim
            · exact Same.free r0.sub z5
          | _ => cases hfl
      · cases ee
    · cases ee⟩⟩
end
end PV
end

section
set_option maxRecDepth 100000
namespace PV
open PySem PySem.Spec PyProof.Rows L2
variable [CodeTabs]
section
variable {X : Cx}
def rIsB (neg : Bool) : R2 := fun x y H Q => ∃ b, y = .bl b ∧ Q (.bl (if neg then !decide (x = .bl b) else decide (x = .bl b))) H
theorem same_bl {x : V} {v : Value} {b : Bool} (rx : RelV x v) : (v == Value.bool b) = decide (x = .bl b) := by
  cases x <;> first
    | (cases rx; first | rfl | (rename_i c; cases c <;> cases b <;> rfl))
    | (obtain ⟨t, rfl⟩ := rx; rfl)
theorem plain_bl {x : V} {v : Value} {b : Bool} (rx : RelV x v) : plainIs v (Value.bool b) = true := by
  cases x <;> first
    | (cases rx; rfl)
    | (obtain ⟨t, rfl⟩ := rx; rfl)
theorem op_isB : OpR X (compareOp .Is) (rIsB false) := by
  intro pins s σ H x y v u Q I rx ry h
  obtain ⟨b, rfl, q⟩ := h
  cases ry
  exact wpAny_is_plain (plain_bl rx) (fin_bl I q (by rw [same_bl rx]; rfl))
theorem op_notB : OpR X (compareOp .IsNot) (rIsB true) := by
  intro pins s σ H x y v u Q I rx ry h
  obtain ⟨b, rfl, q⟩ := h
  cases ry
  exact wpAny_isNot_plain (plain_bl rx) (fin_bl I q (by rw [same_bl rx]; rfl))
end
section
variable {K : PySem.W.Frag}
theorem PVal.isBl {F H : Hp} {d : D} {v : V} {b : Bool} (h : PVal K F H d v) : decide (v = .bl b) = PV.isBl b d := by
  rcases h with h | ⟨a, ho, rfl, _, o⟩
  · cases d with
    | bl c => unfold R at h; subst h; unfold PV.isBl; cases b <;> cases c <;> rfl
    | non => unfold R at h; subst h; rfl
    | int c => unfold R at h; subst h; rfl
    | str c => unfold R at h; obtain ⟨rfl, _⟩ := h; rfl
    | lst c => unfold R at h; obtain ⟨a, vs, rfl, _⟩ := h; rfl
    | tup c => unfold R at h; obtain ⟨a, vs, rfl, _⟩ := h; rfl
    | dic c e => unfold R at h; obtain ⟨a, rfl, _⟩ := h; rfl
    | scr c => unfold R at h; obtain ⟨a, rfl, _⟩ := h; rfl
  · cases d with
    | bl c => cases ho <;> exact o.elim
    | _ => rfl
theorem PVal.bl' {F H : Hp} {b : Bool} {v : V} (h : PVal K F H (.bl b) v) : v = .bl b := by
  rcases h with h | ⟨a, ho, rfl, _, o⟩
  · unfold R at h; exact h
  · cases ho <;> exact o.elim
theorem opd_isB : OpD K (rIsB false) dIsB := by
  intro F H x y c d res Q s hc hd e
  unfold dIsB at e
  split at e
  · rename_i b
    cases e
    exact ⟨fun i q => (nomatch q), fun q => ⟨b, hd.bl', by
      show Q (.bl (decide (x = .bl b))) H
      rw [hc.isBl]; exact q.1 _ (by unfold R; rfl)⟩⟩
  · cases e
theorem opd_notB : OpD K (rIsB true) dNotB := by
  intro F H x y c d res Q s hc hd e
  unfold dNotB at e
  split at e
  · rename_i b
    cases e
    exact ⟨fun i q => (nomatch q), fun q => ⟨b, hd.bl', by
      show Q (.bl (!decide (x = .bl b))) H
      rw [hc.isBl]; exact q.1 _ (by unfold R; rfl)⟩⟩
  · cases e
theorem opd_and : OpD K (L2.rI0 fun i j => .int (Builtin.bitAnd i j)) dAnd := by
  intro F H x y c d res Q s hc hd e
  unfold dAnd at e
  split at e
  · rename_i a b
    split at e
    · rename_i h
      cases e
      refine ⟨fun i q => (nomatch q), fun q => ⟨_, _, hc.int, hd.int, ?_⟩⟩
      have e1 : Builtin.bitAnd a b = ((a.toNat &&& b.toNat : Nat) : Int) := by
        unfold Builtin.bitAnd; simp [h.1, h.2]
      show Q (V.int (Builtin.bitAnd a b)) H
      rw [e1]; exact q.1 _ (by unfold R; rfl)
    · cases e
  · cases e
theorem opd_shr : OpD K (L2.rI (fun _ j => 0 ≤ j) fun i j => .int (i / 2 ^ j.toNat)) dShr := by
  intro F H x y c d res Q s hc hd e
  unfold dShr at e
  split at e
  · split at e
    · rename_i h
      cases e
      exact ⟨fun i q => (nomatch q), fun q => ⟨_, _, hc.int, hd.int, h, q.1 _ (by unfold R; rfl)⟩⟩
    · cases e
  · cases e
theorem opd_shl : OpD K (L2.rI CPow fun i j => .int (i * 2 ^ j.toNat)) dShl := by
  intro F H x y c d res Q s hc hd e
  unfold dShl at e
  split at e
  · split at e
    · rename_i h
      cases e
      exact ⟨fun i q => (nomatch q), fun q => ⟨_, _, hc.int, hd.int, ⟨h.1, by omega, by omega⟩, q.1 _ (by unfold R; rfl)⟩⟩
    · cases e
  · cases e
theorem md_extend : MutD K rExtend mExtend := by
  intro F H p ho c c' ds res vs Q s h o hds e
  unfold mExtend at e
  split at e
  · rename_i xs ys
    split at e
    · rename_i hl
      cases e
      refine ⟨.non, rfl, fun hq => ?_⟩
      cases ho with
      | lst us =>
        have o : RL K F xs us := o
        unfold RL at hds
        obtain ⟨v, r, rfl, h1, h2⟩ := hds
        unfold RL at h2
        subst h2
        unfold R at h1
        obtain ⟨b, zs, rfl, g1, g2⟩ := h1
        exact ⟨p, b, us, zs, rfl, rfl, h, s _ _ g1, by rw [← RL.length _ _ o, ← RL.length _ _ g2, sizeLine_eq]; exact hl, hq _ _ (RL.append o g2) (by unfold R; rfl)⟩
      | _ => exact o.elim
    · cases e
  · cases e
end

theorem cnt_count (c : Nat) : ∀ l : List Nat, cnt c l = ((l.count c : Nat) : Int)
  | [] => rfl
  | n :: r => by
    rw [cnt_cons, cnt_count c r, List.count_cons]
    by_cases h : n = c
    · simp [h]; omega
    · simp [h]
theorem md_count {K : PySem.W.Frag} : MethD K (fun x xs H Q => ∃ a b, x = .str a ∧ xs = [.str b] ∧ Q (.int (Txt.count a b)) H) mCountS := by
  intro F H x xs c cs res Q s hc hcs e
  unfold mCountS at e
  split at e
  · rename_i a ch
    cases e
    obtain ⟨v, rfl, hv⟩ := hcs.one
    refine ⟨fun i q => (nomatch q), fun q => ⟨_, _, hc.str.1, by rw [hv.str.1], ?_⟩⟩
    have e1 : Txt.count ⟨a.toArray⟩ ⟨[ch].toArray⟩ = ((a.count ch : Nat) : Int) := by
      rw [show (⟨[ch].toArray⟩ : Str) = ⟨#[ch]⟩ from rfl, count_cnt, cnt_count]
    rw [e1]; exact q.1 _ (by unfold R; rfl)
  · cases e
theorem slot_extendL : PySem.Slot "list" "extend" "list.extend" := PySem.F.slot_list_extend
theorem slot_countS : PySem.Slot "str" "count" "str.count" := PySem.F.slot_str_count
end PV
end

section
set_option maxRecDepth 100000
namespace PV
open PySem PySem.Spec PyProof.Rows L2
variable [CodeTabs]
section
variable {X : Cx}
abbrev encR (p : V × List Int) : PyData := .tuple (p.2.map .int)
def leP (x y : V × List Int) : Bool := rowLe x.2 y.2
theorem dataLe_tups : PySem.W.dataLe false encR = leP := by
  funext p q
  show (!PySem.W.dataLt (.tuple (q.2.map .int)) (.tuple (p.2.map .int))) = _
  rw [PySem.W.dataLt_tuple]
  show (!PySem.W.rowLt (q.2.map .int) (p.2.map .int)) = _
  rw [PySem.W.dataLt_ints]
  unfold leP rowLe
  by_cases h : q.2 < p.2
  · have h' : ¬ p.2 ≤ q.2 := fun h2 => h2 h
    simp [h, h']
  · have h' : p.2 ≤ q.2 := h
    simp [h, h']
theorem each_rel : ∀ {ps : List (V × List Int)} {us : List Value}, Vals (ps.map (·.1)) us → PySem.W.EachIs (fun v (p : V × List Int) => RelV p.1 v) us ps
  | [], _, h => by cases h; exact .nil
  | p :: ps, _, h => by
    cases h with
    | cons h1 h2 => exact .cons h1 (each_rel h2)
theorem rel_each : ∀ {ps : List (V × List Int)} {us : List Value}, PySem.W.EachIs (fun v (p : V × List Int) => RelV p.1 v) us ps → Vals (ps.map (·.1)) us
  | [], _, h => by cases h; exact .nil
  | p :: ps, _, h => by
    cases h with
    | cons h1 h2 => exact .cons h1 (rel_each h2)
theorem each_reads {pins : List (Addr × Obj)} {σ : L2.St} {H : Hp} {s : Shared} (I : Inv X pins σ H s) : ∀ {ps : List (V × List Int)} {us : List Value}, (∀ p ∈ ps, Dp X.K H p.1 (encR p)) → Vals (ps.map (·.1)) us → PySem.W.EachIs (fun v p => ∃ as, Reads s.heap v (encR p) as) us ps
  | [], _, _, h => by cases h; exact .nil
  | p :: ps, _, hd, h => by
    cases h with
    | cons h1 h2 => exact .cons (Dp.reads I _ _ _ (hd p List.mem_cons_self) h1) (each_reads I (fun q hq => hd q (List.mem_cons_of_mem _ hq)) h2)
def rSortedR (K : PySem.W.Frag) : List V → Hp → VK → Prop := fun vs H Q => ∃ (a : Addr) (ps : List (V × List Int)), vs = [V.ref a] ∧ SqL K H a (ps.map (·.1)) ∧ (∀ p ∈ ps, Dp K H p.1 (encR p)) ∧ (∀ p ∈ ps, p.2 ≠ []) ∧ ps.length ≤ sizeLine ∧
  ∀ p, H p = none → Q (.ref p) (upd H p (.lst ((ps.mergeSort leP).map (·.1))))
theorem cr_sortedR (hu : X.A.units + 65 < cLine) : CallR X (.builtin "sorted") (rSortedR X.K) := by
  intro pins s σ H vs us Q I r h
  obtain ⟨a, ps, rfl, hs, hd, hne, hL, q⟩ := h
  obtain ⟨its, rv, hl, _⟩ := I.list hs
  rw [Vals.ref1 r]
  refine PySem.W.sorted_data (enc := encR) (bs := ps) (R := fun v p => RelV p.1 v) hl.isList (each_rel rv) (each_reads I hd rv) (PySem.W.AllAlike.of fun b b' => by
      simp only [PySem.W.alike]; exact PySem.W.alike_ints _ _) (.inl fun d hd' => by
      obtain ⟨p, hp, rfl⟩ := List.mem_map.mp hd'
      have h1 := hne p hp
      unfold encR
      cases h2 : p.2 with
      | nil => exact (h1 h2).elim
      | cons x r => exact ⟨_, _, rfl⟩) hL (fun b hb => by
      have : (encR b).depth ≤ 1 := by simp [encR, PyData.depth, PySem.W.depth_ints]
      omega) fun out hlo eo => ?_
  rw [dataLe_tups] at eo
  obtain ⟨ep, he'⟩ := PyProof.Rows.sortedAll_at s.heap its (List.toArray out)
  have hlen : ((ps.mergeSort leP).map (·.1)).length ≤ sizeLine := by rw [List.length_map, List.length_mergeSort]; exact hL
  exact ⟨.ref _, upd H (s.heap.objs.size + 1) (.lst ((ps.mergeSort leP).map (·.1))), I.laid (t' := s.toks) (fun _ _ => PyProof.Rows.sortedAll_old) (Nat.le_succ _) ⟨hlen, out, ep, rel_each eo, he'⟩, rfl, q _ (I.hok.fresh (Nat.le_succ _))⟩
def rSortedV (K : PySem.W.Frag) : List V → Hp → VK → Prop := fun vs H Q => rSorted K vs H Q ∨ rSortedR K vs H Q
theorem cr_sortedV (hu : X.A.units + 65 < cLine) : CallR X (.builtin "sorted") (rSortedV X.K) := CallR.or cr_sorted (cr_sortedR hu)
end
section
variable {K : PySem.W.Frag}
theorem asInts_inv : ∀ {xs : List D} {is : List Int}, asInts xs = some is → xs = is.map D.int
  | [], is, e => by unfold asInts at e; cases e; rfl
  | d :: ds, is, e => by
    cases d with
    | int i =>
      simp only [asInts] at e
      split at e
      · cases e
      · rename_i r er
        cases e
        rw [asInts_inv er]; rfl
    | _ => simp only [asInts] at e; cases e
theorem RL.rows {F : Hp} : ∀ {ds : List D} {vs : List V} {rs : List (List Int)}, RL K F ds vs → asRows ds = some rs → ∃ ps : List (V × List Int), vs = ps.map (·.1) ∧ rs = ps.map (·.2) ∧ ∀ p ∈ ps, R K F (rowD p.2) p.1 ∧ p.2 ≠ []
  | [], _, _, h, e => by
    unfold RL at h; subst h
    simp only [asRows] at e; cases e
    exact ⟨[], rfl, rfl, fun p hp => (nomatch hp)⟩
  | d :: ds, _, _, h, e => by
    unfold RL at h
    obtain ⟨v, r, rfl, h1, h2⟩ := h
    unfold asRows at e
    split at e
    · rename_i heq; cases heq
    · rename_i x xs ds' heq
      cases heq
      split at e
      · rename_i r1 rs1 e1 e2
        cases e
        obtain ⟨ps, rfl, rfl, h3⟩ := RL.rows h2 e2
        have e3 : D.tup (x :: xs) = rowD r1 := by
          unfold rowD
          rw [asInts_inv e1]
        refine ⟨(v, r1) :: ps, rfl, rfl, fun p hp => ?_⟩
        rcases List.mem_cons.1 hp with rfl | hp
        · refine ⟨e3 ▸ h1, fun h => ?_⟩
          have h : r1 = [] := h
          rw [h] at e1
          have := asInts_inv e1
          cases this
        · exact h3 p hp
      · cases e
    · cases e
theorem RL.ofRows {F : Hp} : ∀ ps : List (V × List Int), (∀ p ∈ ps, R K F (rowD p.2) p.1) → RL K F ((ps.map (·.2)).map rowD) (ps.map (·.1))
  | [], _ => RL.nil
  | p :: ps, h => RL.cons (h p List.mem_cons_self) (RL.ofRows ps fun q hq => h q (List.mem_cons_of_mem _ hq))
theorem pyL_ints : ∀ r : List Int, pyL (r.map D.int) = r.map .int
  | [] => rfl
  | x :: r => by show PyData.int x :: pyL (r.map D.int) = _; rw [pyL_ints r]; rfl
theorem shalL_intsS (n : Nat) : ∀ r : List Int, shalL n (r.map D.int) = true
  | [] => by cases n <;> rfl
  | x :: r => by
    have := shalL_intsS n r
    cases n <;> (show (true && _) = true; rw [this]; rfl)
theorem shal_rowD (r : List Int) : (rowD r).shal 40 = true := shalL_intsS 39 r
theorem cd_sortedV : CallD K (rSortedV K) dSortedV := by
  intro F H xs cs res Q s hc e
  unfold dSortedV at e
  split at e
  · rename_i ds
    split at e
    · rename_i is ei
      have := cd_sorted (K := K) F H xs _ res Q s hc (by
        unfold dSorted; simp only [ei]; exact e)
      exact ⟨this.1, fun q => .inl (this.2 q)⟩
    · split at e
      · rename_i rs ei
        split at e
        · rename_i hl
          cases e
          obtain ⟨v, rfl, hv⟩ := hc.one
          obtain ⟨p, vs, rfl, h1, h2⟩ := hv.lst s
          obtain ⟨ps, rfl, rfl, h3⟩ := RL.rows h2 ei
          refine ⟨fun i q => (nomatch q), fun q => .inr ⟨p, ps, rfl, SqL.of h1, fun z hz => ?_, fun z hz => (h3 z hz).2, by rw [sizeLine_eq]; simpa using hl, fun r hr => ?_⟩⟩
          · have := (R.dp s 40 _ _ (shal_rowD _) (h3 z hz).1).1
            unfold rowD at this
            simp only [D.py, pyL_ints] at this
            exact this
          · have e1 : sortR (ps.map (·.2)) = (ps.mergeSort leP).map (·.2) := by
              unfold sortR
              exact (List.map_mergeSort (r := leP) (s := rowLe) (f := fun x : V × List Int => x.2) (l := ps) (fun a _ b _ => rfl)).symm
            rw [e1] at q
            exact q r _ hr (RL.ofRows _ fun z hz => (h3 z ((List.mergeSort_perm ps leP).mem_iff.1 hz)).1)
        · cases e
      · cases e
  · cases e
end
theorem slot_reverseL : PySem.Slot "list" "reverse" "list.reverse" := PySem.F.slot_list_reverse
theorem md_reverse {K : PySem.W.Frag} : MutD K rReverse mReverse := by
  intro F H p ho c c' ds res vs Q s h o hds e
  unfold mReverse at e
  split at e
  · rename_i xs
    cases e
    refine ⟨.non, rfl, fun hq => ?_⟩
    cases ho with
    | lst us =>
      have o : RL K F xs us := o
      unfold RL at hds
      subst hds
      exact ⟨p, us, rfl, rfl, h, hq _ _ (RL.reverse o) (by unfold R; rfl)⟩
    | _ => exact o.elim
  · cases e
end PV
end

section
set_option maxRecDepth 100000
namespace PV
open PySem PySem.Spec PyProof.Rows L2
variable [CodeTabs]
section
variable {X : Cx} {Γ : Hp → Option Ea → Prop} {e : Expr} {t : T}
theorem tx_pure (hΓ : ∀ F F' a, Γ F a → Γ F' a) (h : TX X Γ e t) : TX X Γ e (tPure t) :=
  ⟨fun φ hφ => ⟨fun pins s σ H Q I q => by
    obtain ⟨F, env, b, env', r0, ee, k⟩ := q
    unfold tPure at ee
    split at ee
    · rename_i b' env2 ef
      cases ee
      obtain ⟨F1, s1, r1⟩ := r0.frz
      refine (h.at' ⟨F1, H, [], φ.ea⟩ (hΓ _ _ _ hφ)).run pins s σ H Q I ⟨F1, _, b, env2, r1, ef, fun F2 H2 s2 r2 => ?_⟩
      have hH : ∀ b o, H b = some o → (∀ ps, o ≠ .tbl ps) → H2 b = some o := fun b o e e3 => r2.pres b o e (List.not_mem_nil) e3
      exact k F H2 (.refl _) (r0.grow2 hH r2.presT r2.tab)
    · cases ee⟩⟩
end
section
variable {K : PySem.W.Frag} {cm : CM} {φ : Act} {W : WX} {D : Ends} {σ : St} {H : Hp} {t : T}
theorem wipe_out {i v : Nat} (h : v ≠ i) {σ σ' : St} (e : L2.wipe σ' [v] = L2.wipe σ [v]) : σ'[i]? = σ[i]? := by
  have := congrArg (·[i]?) e
  simp only [L2.wipe] at this
  rw [List.getElem?_set_ne h, List.getElem?_set_ne h] at this
  exact this
theorem rS_forT {i v : Nat} {r : PV.D} (h : rS K cm φ W (sForT i v t r) D σ H) :
    tFor (fun σ H R => iList K (rE K φ (eVar i)) σ H fun J H' => HGood K H' → R J H') (rG K φ (.nm v)) (tIfS (rT K φ (tPure t)) (rS K cm φ W (sRet (eC r))) tNext) D σ H := by
  obtain ⟨F, env, o, r0, e, k⟩ := h
  unfold sForT at e
  split at e
  · rename_i ds hi
    split at e
    · rename_i hv
      have ev : eVar i env = some (.bor i, env) := by unfold eVar; rw [hi]
      refine ⟨F, env, .bor i, env, r0, ev, fun F1 H1 w s1 r1 h1 => ?_⟩
      have h1 : σ[i]? = some (some w) := h1
      have own : ∀ {F2 : Hp} {env2 : Env} {σ2 : St} {H2 : Hp}, Rel K φ F2 env2 σ2 H2 → env2[i]? = some (.own (.lst ds)) → ∃ a vs, σ2[i]? = some (some (.ref a)) ∧ H2 a = some (.lst vs) ∧ RL K F2 ds vs := by
        intro F2 env2 σ2 H2 r2 e2
        have z := r2.slot i _ e2
        generalize hσ : σ2[i]? = q at z
        cases z with
        | own g1 g2 g3 g4 =>
          rename_i a ho
          cases ho with
          | lst vs => exact ⟨a, vs, rfl, g1, g2⟩
          | _ => exact g2.elim
      obtain ⟨a, vs, g1, g2, g3⟩ := own r1 hi
      rw [h1] at g1
      cases g1
      refine ⟨a, rfl, ⟨vs, SqL.of g2⟩, fun hg => ?_⟩
      refine ⟨fun j m σ' H' => m = ds.length - j ∧ j ≤ ds.length ∧ ∃ F2 env2, Same F1 F2 ∧ Rel K φ F2 env2 σ' H' ∧ env2[i]? = some (.own (.lst ds)) ∧ σ'[i]? = some (some (.ref a)) ∧ forL (.nm v) (sIf (tPure t) (sRet (eC r)) sPass) (ds.drop j) env2 = some o,
        ⟨ds.length, by simp, Nat.zero_le _, F1, env, .refl _, r1, hi, h1, by simpa using e⟩, ?_⟩
      rintro j m σ2 H2 ⟨rfl, hj, F2, env2, s2, r2, hi2, ha2, e2⟩
      obtain ⟨a', vs2, q1, q2, q3⟩ := own r2 hi2
      rw [ha2] at q1
      cases q1
      have ll := RL.length _ _ q3
      by_cases hlt : j < ds.length
      · refine .inr ⟨⟨vs2, vs2[j]'(by omega), SqL.of q2, List.getElem?_eq_getElem _⟩, fun σ' H' => ∃ F2 env2, Same F1 F2 ∧ Rel K φ F2 env2 σ' H' ∧ env2[i]? = some (.own (.lst ds)) ∧ σ'[i]? = some (some (.ref a)) ∧ forL (.nm v) (sIf (tPure t) (sRet (eC r)) sPass) (ds.drop (j + 1)) env2 = some o,
          fun σ' H' hN => ⟨ds.length - (j + 1), by omega, rfl, hlt, hN⟩, fun x H' y => ?_⟩
        obtain ⟨rfl, y⟩ := y
        obtain ⟨d, ed, hd⟩ : ∃ d, ds[j]? = some d ∧ PV.R K F2 d x := by
          obtain ⟨w, z1, z2⟩ := RL.get q3 (List.getElem?_eq_getElem hlt)
          have := y vs2 (SqL.of q2)
          rw [z1] at this; cases this
          exact ⟨_, List.getElem?_eq_getElem hlt, z2⟩
        rw [drop_get ed] at e2
        unfold forL at e2
        split at e2
        · cases e2
        · rename_i env3 ep
          refine ⟨F2, env2, d, env3, r2, hd, ep, fun σ3 hw r3 => ?_⟩
          have h3 : σ3[i]? = some (some (.ref a)) := by
            rw [wipe_out hv (hw [v] (by simp [Tg.names])), ha2]
          have i3 : env3[i]? = some (.own (.lst ds)) := by
            have ep' : putSlot v (.fz d) env2 = some env3 := by simpa [Tg.put] using ep
            obtain ⟨rfl, _, _⟩ := putSlot_shape ep'
            rw [List.getElem?_set_ne hv]; exact hi2
          unfold sIf at e2
          split at e2
          · cases e2
          · rename_i o' eo
            split at eo
            · cases eo
            · rename_i b env4 et
              have et4 : env4 = env3 := by
                unfold tPure at et
                split at et
                · cases et; rfl
                · cases et
              subst et4
              refine ⟨F2, env4, b, env4, r3, et, fun F5 H5 s5 r5 => ?_⟩
              cases b with
              | true =>
                simp only [if_true] at eo ⊢
                have eo' : some (Out.ret (.fz r) env4) = some (.nxt o') := eo
                cases eo'
              | false =>
                simp only [Bool.false_eq_true, if_false] at eo ⊢
                have eo' : some (Out.nxt env4) = some (.nxt o') := eo
                cases eo'
                exact ⟨F5, _, s2.trans s5, r5, i3, h3, e2⟩
          · rename_i o' eo
            split at eo
            · cases eo
            · rename_i b env4 et
              have et4 : env4 = env3 := by
                unfold tPure at et
                split at et
                · cases et; rfl
                · cases et
              subst et4
              cases b with
              | true =>
                simp only [if_true] at eo
                have eo' : some (Out.ret (.fz r) env4) = some (.cnt o') := eo
                cases eo'
              | false =>
                simp only [Bool.false_eq_true, if_false] at eo
                have eo' : some (Out.nxt env4) = some (.cnt o') := eo
                cases eo'
          · rename_i o' eo
            split at eo
            · cases eo
            · rename_i b env4 et
              cases b with
              | true =>
                simp only [if_true] at eo
                have eo' : some (Out.ret (.fz r) env4) = some (.brk o') := eo
                cases eo'
              | false =>
                simp only [Bool.false_eq_true, if_false] at eo
                have eo' : some (Out.nxt env4) = some (.brk o') := eo
                cases eo'
          · rename_i o' n1 n2 n3 eo
            cases e2
            split at eo
            · cases eo
            · rename_i b env4 et
              have et4 : env4 = env3 := by
                unfold tPure at et
                split at et
                · cases et; rfl
                · cases et
              subst et4
              refine ⟨F2, env4, b, env4, r3, et, fun F5 H5 s5 r5 => ?_⟩
              cases b with
              | true =>
                simp only [if_true] at eo ⊢
                have eo' : some (Out.ret (.fz r) env4) = some o := eo
                cases eo'
                exact ⟨F5, env4, .ret (.fz r) env4, r5, rfl, fun F6 σ6 H6 v6 s6 r6 h6 => k F6 σ6 H6 v6 (((s1.trans s2).trans s5).trans s6) r6 h6⟩
              | false =>
                simp only [Bool.false_eq_true, if_false] at eo
                have eo' : some (Out.nxt env4) = some o := eo
                cases eo'
                exact (n1 _ rfl).elim
      · have hj' : j = ds.length := by omega
        subst hj'
        refine .inl ⟨⟨vs2, SqL.of q2, by omega⟩, ?_⟩
        rw [List.drop_length] at e2
        unfold forL at e2
        cases e2
        exact k F2 σ2 H2 (s1.trans s2) r2
    · cases e
  · cases e
end
section
variable {X : Cx} {Γ : Hp → Option Ea → Prop} {cm : CM} {W : WX} {e tg c k : Expr} {t : T} {p p2 p3 : Pos}
theorem sx_forT {i v : Nat} {r : D} (hp : PassesOwn (model X.prog X.w) X.A X.env X.xe) (hc : X.calm = true) (hΓ : ∀ F F' a, Γ F a → Γ F' a) (he : EX X Γ e (eVar i)) (hg : GX X Γ tg (.nm v)) (ht : TX X Γ c t) (hk : EX X Γ k (eC r))
    (hs : ∀ x, foldedSetIterable e X.env x = pure x := by intro _; rfl) :
    SX X Γ cm W (.For tg e [.If c [.Return (some k) p3] [] p2] [] p) (sForT i v t r) :=
  ⟨fun φ hφ => PS.weak (ps_for hp hc (PI.good (pi_list (he.at' φ hφ))) (hg.at' φ hφ) (pss_one (ps_if ((tx_pure hΓ ht).at' φ hφ) ((ssx_one (sx_ret (cm := cm) (W := W) hk)).at' φ hφ) pss_nil)) hs) fun D σ H h => rS_forT h⟩
end
end PV
namespace PV
open PySem PySem.Spec PyProof.Rows L2
variable [CodeTabs]
theorem fnOk_none {P : Program} {w : World} {K : PySem.W.Frag} {mg : Str → Option Value} {base : Heap} {CX : CXT} {k : Nat} {f : Addr} {fd : FuncData} {ps : List Str} {cm : CM} {n : Nat} : FnOk P w K mg base CX k f fd ps (spF K cm n fun _ => none) :=
  ⟨fun vs H Q E h => (by obtain ⟨_, _, _, _, _, _, _, _, _, z, _⟩ := h; exact (nomatch z)), fun A outer s H args us vs Q E _ _ _ _ h => (by obtain ⟨_, _, _, _, _, _, _, _, _, z, _⟩ := h; exact (nomatch z))⟩
end PV
end

section
set_option maxRecDepth 100000
namespace PV
open PySem PySem.Spec PyProof.Rows L2
variable [CodeTabs]
theorem rE_mono {K : PySem.W.Frag} {φ : Act} {f : E} {σ : L2.St} {H : Hp} {Q Q' : VK} (w : ∀ x H1, Q x H1 → Q' x H1) (h : rE K φ f σ H Q) : rE K φ f σ H Q' := by
  obtain ⟨F, env, r, env', r0, e, k⟩ := h
  exact ⟨F, env, r, env', r0, e, fun F' H' v s1 r1 h1 => w _ _ (k F' H' v s1 r1 h1)⟩
/-! ### dicts of the module -/
def KdOk (K : PySem.W.Frag) (w : World) (d : Addr) (tab : Tab) : Prop := ∀ k v, tabGet k tab = some v → KDct K w d ⟨k.toArray⟩ (.str ⟨v.toArray⟩) ∧ okS v = true
theorem kd_nil {K : PySem.W.Frag} {w : World} {d : Addr} : KdOk K w d [] := fun k v h => by cases h
theorem kd_cons {K : PySem.W.Frag} {w : World} {d : Addr} {es : Array DictEntry} {n : Nat} {t : Tok} {s r : Str} {k v : List Nat} {tab : Tab} (hk : s = ⟨k.toArray⟩) (hv : r = ⟨v.toArray⟩) (ho : okS v = true)
    (x : K.lookup d = some ⟨.type "dict", none, .dict es n, #[]⟩) (q : PySem.W.KeysLit w.params es.toList) (e : PySem.W.nsIn K d s = some (some (.str r t))) (h : KdOk K w d tab) : KdOk K w d ((k, v) :: tab) := fun k' v' h' => by
  unfold tabGet at h'
  split at h'
  · rename_i hk'
    cases h'
    subst hk'
    subst hk
    subst hv
    exact ⟨⟨es, n, _, x, q, e, ⟨t, rfl⟩⟩, ho⟩
  · exact h k' v' h'
section
variable {X : Cx} {Γ : Hp → Option Ea → Prop} {a b e : Expr} {f g : E} {pos p : Pos}
def rKd (K : PySem.W.Frag) (w : World) (d : Addr) : V → Hp → VK → Prop := fun y H Q => rIxD K w (.ref d) y H Q
theorem und_kd {K : PySem.W.Frag} {w : World} {d : Addr} {tab : Tab} (D : KdOk K w d tab) : UnD K (rKd K w d) (dKd tab) := by
  intro F H x c res Q s hc e
  unfold dKd at e
  split at e
  · rename_i k
    split at e
    · rename_i v hv
      cases e
      obtain ⟨h1, h2⟩ := D k v hv
      exact ⟨fun i q => (nomatch q), fun q => ⟨d, _, _, rfl, hc.str.1, h1, q.1 _ (by unfold R; exact ⟨rfl, h2⟩)⟩⟩
    · cases e
  · cases e
theorem ex_kdict {x : Str} {d : Addr} {tab : Tab} (hg : Gl X x) (hm : X.mg x = some (.ref d)) (D : KdOk X.K X.w d tab) (he : EX X Γ e f) (hs : PlainIx e) (hd : (x == ("__debug__" : Str)) = false := by decide) : EX X Γ (.Subscript (.Name x p) e pos) (eUn (dKd tab) f) :=
  ⟨fun φ hφ => PE.weak (pe_ix ix_kdict (pe_glob (v := .ref d) hg hm rfl hd) (he.at' φ hφ) hs) fun _ _ _ h => rE_un (und_kd D) h⟩
end
/-! ### dicts that are written -/
def trsOf (tab : Tab) : List (TE × TE) := tab.map fun kv => (tC (.str ⟨kv.1.toArray⟩), tC (.str ⟨kv.2.toArray⟩))
structure DCX (X : Cx) (pos : Pos) (keys : List (Option Expr)) (vals : List Expr) (tab : Tab) : Prop where
  pps : PPs X pos keys vals (trsOf tab)
  ok : ∀ kv ∈ tab, okS kv.2 = true
section
variable {X : Cx} {Γ : Hp → Option Ea → Prop} {pos p1 p2 : Pos} {a b : Expr} {f g : E}
theorem dcx_nil : DCX X pos [] [] [] := ⟨pps_nil, fun _ h => (nomatch h)⟩
theorem dcx_cons {s r : Str} {k v : List Nat} {i j : Nat} {keys : List (Option Expr)} {vals : List Expr} {tab : Tab} (hk : s = ⟨k.toArray⟩) (hv : r = ⟨v.toArray⟩) (ho : okS v = true) (h : DCX X pos keys vals tab) :
    DCX X pos (some (.Constant (.str s) i p1) :: keys) (.Constant (.str r) j p2 :: vals) ((k, v) :: tab) := by
  subst hk
  subst hv
  refine ⟨pps_cons pe_str pe_str h.pps, fun kv hkv => ?_⟩
  rcases List.mem_cons.1 hkv with rfl | hkv
  · exact ho
  · exact h.ok kv hkv
theorem tPairs_const {σ : L2.St} {H : Hp} : ∀ {tab : Tab} {Q : List (V × V) → Hp → Prop}, Q (tab.map fun kv => (V.str ⟨kv.1.toArray⟩, V.str ⟨kv.2.toArray⟩)) H → tPairs (trsOf tab) σ H Q
  | [], _, h => h
  | kv :: tab, Q, h => tPairs_const (tab := tab) (Q := fun ps H3 => Q ((V.str ⟨kv.1.toArray⟩, V.str ⟨kv.2.toArray⟩) :: ps) H3) h
theorem mergeK_new : ∀ (more kvs : List (Key × V)), ((kvs ++ more).map (·.1)).Nodup → mergeK kvs more = kvs ++ more
  | [], kvs, _ => by simp [mergeK]
  | kv :: more, kvs, h => by
    have hn : valV kvs kv.1 = none := by
      unfold valV
      rw [Option.map_eq_none_iff, List.find?_eq_none]
      intro x hx hq
      simp only [decide_eq_true_eq] at hq
      rw [List.map_append, List.nodup_append] at h
      exact h.2.2 x.1 (List.mem_map.2 ⟨x, hx, rfl⟩) kv.1 (by simp) hq
    show mergeK (putK kvs kv.1 kv.2) more = _
    rw [putK_new kv.2 hn, mergeK_new more (kvs ++ [(kv.1, kv.2)]) (by simpa using h)]
    simp
theorem upd_upd' {H : Hp} {p : Addr} {x y : HO} : L2.upd (L2.upd H p x) p y = L2.upd H p y := by
  funext q
  by_cases h : q = p
  · subst h; rw [upd_same, upd_same]
  · rw [upd_ne h, upd_ne h, upd_ne h]
def kvsOf (tab : Tab) : List (Key × V) := tab.map fun kv => (Sum.inr ⟨kv.1.toArray⟩, V.str ⟨kv.2.toArray⟩)
theorem rl_vals {K : PySem.W.Frag} {F : Hp} : ∀ {tab : Tab}, (∀ kv ∈ tab, okS kv.2 = true) → RL K F (tab.map fun kv => D.str kv.2) ((kvsOf tab).map (·.2))
  | [], _ => RL.nil
  | kv :: tab, h => RL.cons (by unfold R; exact ⟨rfl, h kv (by simp)⟩) (rl_vals fun q hq => h q (by simp [hq]))
theorem ex_dic {keys : List (Option Expr)} {vals : List Expr} {tab : Tab} (h : DCX X pos keys vals tab) (hn : (tab.map (·.1)).Nodup) (hall : keys.all (·.isSome) = true) (hl : keys.length = vals.length) (h0 : keys ≠ []) (h15 : keys.length ≤ 15) (hlt : tab.length ≤ 15) :
    EX X Γ (.Dict keys vals pos) (eDicC tab) :=
  ⟨fun φ hφ => PE.weak (pe_disp h.pps hall hl h0 h15) fun σ H Q q => by
    obtain ⟨F, env, r, env', r0, e, k⟩ := q
    unfold eDicC at e
    cases e
    intro p hp
    refine tPairs_const ⟨upd_same, kvsOf tab, by simp [kvsOf, kV], by simpa [kvsOf] using hlt, ?_⟩
    have hkn : ((kvsOf tab).map (·.1)).Nodup := by
      have e1 : (kvsOf tab).map (·.1) = (tab.map (·.1)).map fun k => (Sum.inr ⟨k.toArray⟩ : Key) := by simp [kvsOf]
      rw [e1]
      refine List.Pairwise.map _ (fun a b hab => ?_) hn
      intro hq
      injection hq with hq
      injection hq with hq
      exact hab (by simpa using hq)
    have hm := mergeK_new (kvsOf tab) [] (by simpa using hkn)
    rw [List.nil_append] at hm
    rw [hm, upd_upd']
    have hob : ObjR X.K F (.dK (kvsOf tab)) (.dic (tab.map fun kv => D.str kv.1) (tab.map fun kv => D.str kv.2)) := ⟨by simp [kvsOf, kD], rl_vals h.ok⟩
    obtain ⟨r', g⟩ := r0.fresh (d := .dic (tab.map fun kv => D.str kv.1) (tab.map fun kv => D.str kv.2)) (ho := .dK (kvsOf tab)) hp hob
    exact k F _ _ (.refl _) r' g⟩
def rDGet : R2 := fun x y H Q => ∃ a v, x = .ref a ∧ DGet H a y (some v) ∧ Q v H
theorem dicGet_ok {K : PySem.W.Frag} {F : Hp} {k : List Nat} {d : D} : ∀ {kvs : List (Key × V)} {ds : List D}, RL K F ds (kvs.map (·.2)) → dicGet k (kvs.map fun p => kD p.1) ds = some d → ∃ v, valV kvs (Sum.inr ⟨k.toArray⟩) = some v ∧ R K F d v
  | [], ds, h, e => by
    cases ds <;> cases e
  | (key, v) :: kvs, ds, h, e => by
    cases ds with
    | nil => cases key <;> cases e
    | cons d0 ds =>
      unfold RL at h
      obtain ⟨v0, r, hq, h1, h2⟩ := h
      injection hq with hq1 hq2
      subst hq1; subst hq2
      cases key with
      | inl i =>
        simp only [List.map_cons, kD, dicGet] at e
        cases e
      | inr x =>
        simp only [List.map_cons, kD, dicGet] at e
        split at e
        · rename_i hx
          cases e
          refine ⟨v, ?_, h1⟩
          have : x = ⟨k.toArray⟩ := by
            obtain ⟨cps⟩ := x
            simp only at hx
            rw [← hx]
          exact valV_pos (by rw [this])
        · rename_i hx
          obtain ⟨v', g1, g2⟩ := dicGet_ok h2 e
          refine ⟨v', ?_, g2⟩
          rw [valV_neg (fun hq => hx ?_)]
          · exact g1
          · injection hq with hq
            rw [hq]
theorem opd_dget {K : PySem.W.Frag} : OpD K rDGet dDGet := by
  intro F H x y c d res Q s hc hd e
  unfold dDGet at e
  split at e
  · rename_i ks ds k
    split at e
    · rename_i d0 hd0
      cases e
      refine ⟨fun i q => (nomatch q), fun q => ?_⟩
      have hy := hd.str.1
      subst hy
      have key : ∀ (a : Addr) (ho : HO), H a = some ho → ObjR K F ho (.dic ks ds) → ∃ v, DGet H a (.str ⟨k.toArray⟩) (some v) ∧ R K F d0 v := by
        intro a ho h1 o
        cases ho with
        | dK kvs =>
          obtain ⟨o1, o2⟩ := o
          subst o1
          obtain ⟨v, g1, g2⟩ := dicGet_ok o2 hd0
          exact ⟨v, by rw [← g1]; exact DGet.k (k := Sum.inr ⟨k.toArray⟩) h1, g2⟩
        | dT kvs =>
          obtain ⟨o1, o2⟩ := o
          subst o1
          cases kvs with
          | nil => cases ds <;> cases hd0
          | cons kv r => cases ds <;> cases hd0
        | _ => exact o.elim
      rcases hc with h | ⟨a, ho, rfl, h1, o⟩
      · unfold R at h
        obtain ⟨a, rfl, h⟩ := h
        rcases h with ⟨kvs, h1, h2, h3⟩ | ⟨kvs, h1, h2, h3⟩
        · obtain ⟨v, g1, g2⟩ := key a (.dK kvs) (s _ _ h1) ⟨h2, h3⟩
          exact ⟨a, v, rfl, g1, q.1 _ g2⟩
        · obtain ⟨v, g1, g2⟩ := key a (.dT kvs) (s _ _ h1) ⟨h2, h3⟩
          exact ⟨a, v, rfl, g1, q.1 _ g2⟩
      · obtain ⟨v, g1, g2⟩ := key a ho h1 o
        exact ⟨a, v, rfl, g1, q.1 _ g2⟩
    · cases e
  · cases e
theorem ex_dget (hu : X.A.units + 1 < cLine) (ha : EX X Γ a f) (hb : EX X Γ b g) (hs : NoSl b) : EX X Γ (.Subscript a b pos) (eBin dDGet f g) :=
  ⟨fun φ hφ => PE.weak (pe_dget hu (ha.at' φ hφ) (hb.at' φ hφ) hs) fun _ _ _ h => rE_bin opd_dget h⟩
end
/-! ### text * n -/
section
variable {X : Cx}
theorem mulOk_small {s : List Nat} {k : Int} (h : s.length ≤ 1000 ∧ k.natAbs ≤ 1000) : MulOk ⟨s.toArray⟩ k := by
  have hl : (⟨s.toArray⟩ : Str).length = s.length := str_len s
  refine ⟨?_, fun h1 _ => ?_, fun h1 _ => ?_⟩
  · simp only [Bool.or_eq_false_iff, decide_eq_false_iff_not]; omega
  · rw [hl]
    intro hq
    have h2 : (1000 : Int) ≤ (2 ^ 63 - 1) / k := (Int.le_ediv_iff_mul_le (by omega)).2 (by omega)
    omega
  · rw [hl]
    unfold Builtin.Str.tooLong
    rw [sizeLine_eq]
    have : s.length * k.toNat ≤ 1000 * 1000 := Nat.mul_le_mul h.1 (by omega)
    simp only [decide_eq_false_iff_not]; omega
theorem mul_list (s : List Nat) (k : Int) : Txt.mul ⟨s.toArray⟩ k = ⟨(List.replicate k.toNat s).flatten.toArray⟩ := by
  unfold Txt.mul
  split
  · rename_i h
    have : k.toNat = 0 := by omega
    rw [this]; rfl
  · split
    · rename_i h1 h
      simp only [Bool.or_eq_true, beq_iff_eq] at h
      rcases h with h | h
      · subst h; simp
      · have hs : s = [] := by
          rw [str_len] at h
          exact List.eq_nil_of_length_eq_zero h
        subst hs; simp
    · have key : ∀ (n : Nat) (acc : Array Nat), (List.replicate n s.toArray).foldl (· ++ ·) acc = acc ++ (List.replicate n s).flatten.toArray := by
        intro n
        induction n with
        | zero => intro acc; simp
        | succ n ih => intro acc; rw [List.replicate_succ, List.foldl_cons, ih, List.replicate_succ, List.flatten_cons]; simp
      have := key k.toNat #[]
      show (⟨(List.replicate k.toNat s.toArray).foldl (· ++ ·) #[]⟩ : Str) = _
      rw [this]; simp
def rMulS : R2 := fun x y H Q => ∃ (s : List Nat) (k : Int), x = .str ⟨s.toArray⟩ ∧ y = .int k ∧ (s.length ≤ 1000 ∧ k.natAbs ≤ 1000) ∧ Q (.str ⟨(List.replicate k.toNat s).flatten.toArray⟩) H
theorem op_mulS : OpR X (binaryOp .Mult) rMulS := by
  intro pins s σ H x y v u Q I rx ry h
  obtain ⟨l, k, rfl, rfl, hb, q⟩ := h
  obtain ⟨t, rfl⟩ := rx
  obtain ⟨t', rfl⟩ := ry
  refine PySem.SB.mul (mulOk_small hb) fun t2 k2 => ⟨.str ⟨(List.replicate k.toNat l).flatten.toArray⟩, H, I.tok _, ⟨t2, by rw [mul_list]⟩, q⟩
theorem okS_rep {s : List Nat} (h : okS s = true) (n : Nat) (hl : (List.replicate n s).flatten.length ≤ 16777216) : okS (List.replicate n s).flatten = true := by
  unfold okS at *
  simp only [Bool.and_eq_true, decide_eq_true_eq, List.all_eq_true] at *
  refine ⟨hl, fun x hx => ?_⟩
  rw [List.mem_flatten] at hx
  obtain ⟨m, hm, hx⟩ := hx
  rw [List.eq_of_mem_replicate hm] at hx
  exact h.2 x hx
theorem opd_mulS {K : PySem.W.Frag} : OpD K rMulS dMulS := by
  intro F H x y c d res Q s hc hd e
  unfold dMulS at e
  split at e
  · rename_i l k
    split at e
    · rename_i hb
      cases e
      refine ⟨fun i q => (nomatch q), fun q => ⟨l, k, hc.str.1, hd.int, hb, q.1 _ ?_⟩⟩
      unfold R
      refine ⟨rfl, okS_rep hc.str.2 _ ?_⟩
      have : (List.replicate k.toNat l).flatten.length = k.toNat * l.length := by simp
      rw [this]
      have : k.toNat * l.length ≤ 1000 * 1000 := Nat.mul_le_mul (by omega) hb.1
      omega
    · cases e
  · cases e
end
/-! ### replace: a token must be out -/
section
variable {X : Cx} {Γ : Hp → Option Ea → Prop} {e o : Expr} {es : List Expr} {f : E} {g : EL}
structure EXT (X : Cx) (Γ : Hp → Option Ea → Prop) (e : Expr) (f : E) : Prop where
  at' : ∀ φ : Act, Γ φ.F φ.ea → PET X e (rE X.K φ f)
structure AXT (X : Cx) (Γ : Hp → Option Ea → Prop) (es : List Expr) (f : EL) : Prop where
  at' : ∀ φ : Act, Γ φ.F φ.ea → PAT X es (rA X.K φ f)
def PEG (X : Cx) (e : Expr) (te : TE) : Prop := ∀ (pins : List (Addr × Obj)) (s : Shared) (σ : L2.St) (H : Hp) (Q : VK), Inv X pins σ H s → te σ H Q →
  wpAny (model X.prog X.w) X.A (eval e X.env) (fun u s' => EP X pins σ Q u s' ∧ 1 ≤ s'.toks) X.xe s
structure EXG (X : Cx) (Γ : Hp → Option Ea → Prop) (e : Expr) (f : E) : Prop where
  at' : ∀ φ : Act, Γ φ.F φ.ea → PEG X e (rE X.K φ f)
theorem ext_of (h : EX X Γ e f) : EXT X Γ e f := ⟨fun φ hφ => CwR.PET.of (h.at' φ hφ)⟩
theorem PET.weak' {te te' : TE} (h : PET X e te) (w : ∀ σ H Q, te' σ H Q → te σ H Q) : PET X e te' := fun pins s σ H Q h0 I q => h pins s σ H Q h0 I (w _ _ _ q)
theorem PAT.weak' {te te' : TA} (h : PAT X es te) (w : ∀ σ H Q, te' σ H Q → te σ H Q) : PAT X es te' := fun pos pins s σ H Q h0 I q => h pos pins s σ H Q h0 I (w _ _ _ q)
theorem axt_nil : AXT X Γ [] eNil := ⟨fun φ hφ => PAT.weak' pat_nil fun _ _ _ h => rA_nil h⟩
theorem axt_cons (ha : EXT X Γ e f) (hr : AXT X Γ es g) (hs : starEach (e :: es) X.env = (false, eval e X.env) :: starEach es X.env := by rfl) : AXT X Γ (e :: es) (eCons f g) :=
  ⟨fun φ hφ => PAT.weak' (pat_cons (ha.at' φ hφ) (hr.at' φ hφ) hs) fun _ _ _ h => rA_cons h⟩
theorem pa_consG {te : TE} {ta : TA} (ha : PEG X e te) (hr : PAT X es ta) (hs : starEach (e :: es) X.env = (false, eval e X.env) :: starEach es X.env) : PA X (e :: es) (tCons te ta) := ⟨fun pos pins s σ H Q I h => by
  rw [hs]
  show wpAny _ _ (spliced ((false, eval e X.env) :: backTo pos (starEach es X.env))) _ _ s
  refine Calls.spliced_cons (thn (ha pins s σ H _ I h) fun v s1 q => ?_)
  obtain ⟨⟨x, H1, I1, r1, q1⟩, hk⟩ := q
  exact thn (hr pos pins s1 σ H1 _ hk I1 q1) fun us s2 ⟨xs, H2, I2, r2, q2⟩ => ⟨x :: xs, H2, I2, .cons r1 r2, q2⟩⟩
theorem ax_consG (ha : EXG X Γ e f) (hr : AXT X Γ es g) (hs : starEach (e :: es) X.env = (false, eval e X.env) :: starEach es X.env := by rfl) : AX X Γ (e :: es) (eCons f g) :=
  ⟨fun φ hφ => PA.weak (pa_consG (ha.at' φ hφ) (hr.at' φ hφ) hs) fun _ _ _ h => rA_cons h⟩
/-- e + 'text' gives a token out -/
theorem exg_add {r : R2} {fo : D → D → Option RV} {op : Operator} {c : Str} {j : Nat} {l : List Nat} {pos p2 : Pos} (ho : OpR X (binaryOp op) r) (hf : OpD X.K r fo) (ha : EX X Γ e f) (hx : c = ⟨l.toArray⟩) (hk : okS l = true) :
    EXG X Γ (.BinOp e op (.Constant (.str c) j p2) pos) (eBin fo f (eC (.str l))) :=
  ⟨fun φ hφ => fun pins s σ H Q I q => by
    have q' : tOp r (rE X.K φ f) (tC (.str c)) σ H Q := by
      have h1 := rE_bin hf q
      refine (?_ : rE X.K φ f σ H fun x H1 => r x (.str c) H1 Q)
      exact rE_mono (fun x H1 h2 => (rE_C (σ := σ) (H := H1) (Q := fun y H2 => r x y H2 Q) (v := .str c) (fun _ => by unfold R; exact ⟨by rw [hx], hk⟩) h2 : tC (.str c) σ H1 fun y H2 => r x y H2 Q)) h1
    refine wpAny_BinOp (thn ((ha.at' φ hφ).run pins s σ H _ I q') fun v s1 ⟨x, H1, I1, r1, q1⟩ => ?_)
    refine Calls.Constant_str ?_
    have h3 := ho pins _ σ H1 x (.str c) v (.str c s1.toks) Q (I1.tok (s1.toks + 1)) r1 ⟨_, rfl⟩ q1
    exact wpAny_mono (PySem.wpAny_toks h3) (fun u s2 z => ⟨z.2, by have := z.1; simp only at this; omega⟩) fun _ _ z => z.2⟩
theorem repl_map (c : Nat) (z : List Nat) : ∀ l : List Nat, PySem.StrLaws.replL [c] z l = l.flatMap fun x => if x = c then z else [x]
  | [] => PySem.StrLaws.replL_nil
  | x :: l => by
    by_cases h : x = c
    · subst h
      rw [PySem.StrLaws.replL_hit (by simp) (by simp)]
      simp [repl_map x z l]
    · rw [PySem.StrLaws.replL_miss (by simp [h])]
      simp [h, repl_map c z l]
theorem replace_map (s : List Nat) (c : Nat) (z : List Nat) : Txt.replace ⟨s.toArray⟩ ⟨[c].toArray⟩ ⟨z.toArray⟩ = ⟨(s.flatMap fun x => if x = c then z else [x]).toArray⟩ := by
  have h := PySem.StrLaws.replace_list (x := ⟨s.toArray⟩) (y := ⟨[c].toArray⟩) (z := ⟨z.toArray⟩) (by rw [str_len]; simp)
  simp only [List.toList_toArray] at h
  rw [repl_map] at h
  generalize Txt.replace ⟨s.toArray⟩ ⟨[c].toArray⟩ ⟨z.toArray⟩ = w at h
  obtain ⟨cps⟩ := w
  simp only at h
  rw [← h]
def rRepl (c : Nat) (z : List Nat) : V → Hp → VK → Prop := fun x H Q => ∃ s : List Nat, x = .str ⟨s.toArray⟩ ∧ s.length + (s.length + 1) * z.length ≤ 16777216 ∧ Q (.str ⟨(s.flatMap fun x => if x = c then z else [x]).toArray⟩) H
theorem und_repl {K : PySem.W.Frag} {c : Nat} {z : List Nat} (hz : okS z = true) : UnD K (rRepl c z) (dRepl c z) := by
  intro F H x d res Q s hc e
  unfold dRepl at e
  split at e
  · rename_i l
    split at e
    · rename_i hl
      cases e
      refine ⟨fun i q => (nomatch q), fun q => ⟨l, hc.str.1, hl, q.1 _ ?_⟩⟩
      unfold R
      refine ⟨rfl, ?_⟩
      have h2 := hc.str.2
      unfold okS at h2 hz ⊢
      simp only [Bool.and_eq_true, decide_eq_true_eq, List.all_eq_true] at *
      have hlen : ∀ m : List Nat, (m.flatMap fun x => if x = c then z else [x]).length ≤ m.length + (m.length + 1) * z.length := by
        intro m
        induction m with
        | nil => simp
        | cons a m ih =>
          rw [List.flatMap_cons, List.length_append, List.length_cons, Nat.add_mul (m.length + 1) 1, Nat.one_mul]
          by_cases h : a = c
          · rw [if_pos h]; omega
          · rw [if_neg h, List.length_singleton]; omega
      refine ⟨Nat.le_trans (hlen l) hl, fun y hy => ?_⟩
      rw [List.mem_flatMap] at hy
      obtain ⟨a, ha, hy⟩ := hy
      by_cases h : a = c
      · rw [if_pos h] at hy; exact hz.2 y hy
      · rw [if_neg h] at hy
        have : y = a := by simpa using hy
        rw [this]; exact h2.2 a ha
    · cases e
  · cases e
theorem ext_repl {y z : Str} {j k : Nat} {c : Nat} {l : List Nat} {c0 c1 apos pos : Pos} (he : EX X Γ o f) (hy : y = ⟨[c].toArray⟩) (hz : z = ⟨l.toArray⟩) (hk : okS l = true) (hyz : (y == z) = false)
    (hst : starEach [.Constant (.str y) j c0, .Constant (.str z) k c1] X.env = [(false, eval (.Constant (.str y) j c0) X.env), (false, eval (.Constant (.str z) k c1) X.env)] := by rfl)
    (hbase : attributeBase o "replace" X.env (eval o X.env) = eval o X.env := by rfl) (hline : (apos.endLine == pos.line) = true := by rfl) :
    EXT X Γ (.Call (.Attribute o "replace" apos) [.Constant (.str y) j c0, .Constant (.str z) k c1] [] pos) (eUn (dRepl c l) f) :=
  ⟨fun φ hφ => PET.weak' (CwR.pet_replC (he.at' φ hφ) hyz hst hbase hline) fun σ H Q h => by
    have h1 := rE_un (und_repl hk) h
    refine rE_mono (fun x H1 h2 => ?_) h1
    obtain ⟨s, rfl, hl, q⟩ := h2
    refine ⟨_, rfl, ?_, ?_⟩
    · rw [hz, str_len, str_len]; exact hl
    · rw [hy, hz, replace_map]; exact q⟩
end
end PV
namespace PV
open PySem PySem.Spec PyProof.Rows L2
variable [CodeTabs]
theorem hu1 {k : Nat} {A : Around} (h : Room k A) : A.units + 1 < cLine := Nat.lt_of_le_of_lt (Nat.add_le_add_left (by decide) _) (hu65 h)
end PV
end

section
set_option maxRecDepth 100000
namespace PV
open PySem PySem.Spec PyProof.Rows L2
variable [CodeTabs]
/-! ### enumerate over a text -/
def Itx (x : Str) : It :=
  ⟨fun i _ => i < x.cps.size, fun i H v H' => ∃ T c, v = .ref T ∧ H T = none ∧ H' = upd H T (.tup [.int (i : Nat), .str ⟨#[c]⟩]) ∧ x.cps[i]? = some c, fun i _ => x.cps.size ≤ i⟩
theorem draws_text {P : Program} {w : World} {A : Around} (hh : A.handled = none) (it : Addr) (x : Str) (t : Tok) :
    Draws P w A it [it] x.cps.size (fun i v => ∃ c u, x.cps[i]? = some c ∧ v = .str ⟨#[c]⟩ u) (fun i h => h.IsStrIter it (strIterType x) x t i) := by
  have : strIterType x = "str_ascii_iterator" ∨ strIterType x = "str_iterator" := by
    unfold strIterType
    split
    · exact .inl rfl
    · exact .inr rfl
  rcases this with e | e
  · rw [e]; exact Draws.strAscii hh it x t
  · rw [e]; exact Draws.strWide hh it x t
theorem draws_end {P : Program} {w : World} {A : Around} (hh : A.handled = none) (it : Addr) (x : Str) (t : Tok) (i : Nat) (hi : x.cps.size ≤ i) :
    Draws P w A it [it] i (fun _ _ => True) (fun j h => j = i ∧ h.IsStrIter it (strIterType x) x t i) where
  live := fun _ _ st => let ⟨_, o, ho, _⟩ := st; ⟨o, ho⟩
  frame := fun _ _ _ st hk => let ⟨e, o, ho, r⟩ := st; ⟨e, o, hk it (by simp) o ho, r⟩
  item := fun j s Q E hj st hQ => by have := st.1; omega
  done := fun s Q E st hE => by
    have hx : x.cps[i]? = none := Array.getElem?_eq_none hi
    have : strIterType x = "str_ascii_iterator" ∨ strIterType x = "str_iterator" := by
      unfold strIterType
      split
      · exact .inl rfl
      · exact .inr rfl
    have st := st.2
    rcases this with e | e
    · rw [e] at st; exact wpAny_nextOf_ascii_end hh st hx hE
    · rw [e] at st; exact wpAny_nextOf_wide_end hh st hx hE
theorem turn_enumS {P : Program} {w : World} {K : PySem.W.Frag} {elts : List Expr} {kk : Nat} {tpos : Pos} (x : Str) (t : Tok) (e it : Addr) :
    Turn P w K (.Tuple elts kk tpos) (Itx x) [e, it] e (fun i h => (∃ old, IsEnum h e it ((i : Nat) : Int) old) ∧ h.IsStrIter it (strIterType x) x t i ∧ e ≠ it) where
  mem := by simp
  obj := fun i h st b hb => by
    obtain ⟨⟨old, he⟩, ⟨o, ho, hc, hd⟩, _⟩ := st
    have e' : b = e ∨ b = it := by simpa using hb
    rcases e' with z | z
    · rw [z]; exact ⟨_, he, fun v q => nomatch q⟩
    · rw [z]; exact ⟨o, ho, fun v q => by rw [hd] at q; cases q⟩
  keep := fun i h h' st k => by
    obtain ⟨⟨old, he⟩, ⟨o, ho, r⟩, hne⟩ := st
    exact ⟨⟨old, k e (by simp) _ he⟩, ⟨o, k it (by simp) o ho, r⟩, hne⟩
  item := by
    intro X hP hw hK hc i pins s σ H E I hf st hg
    subst hP hw hK
    obtain ⟨⟨old, he⟩, hit, hne⟩ := st
    have hel : e < s.heap.objs.size := Heap.lt_size he
    have hil : it < s.heap.objs.size := by obtain ⟨_, q, _⟩ := hit; exact Heap.lt_size q
    refine wpAny_pyNext_enum_itemD (St := fun i h => h.IsStrIter it (strIterType x) x t i) (draws_text (A := X.A.in1) (show X.A.in1.handled = none from I.ok.hd hc) it x t) he hit hg hne (by simpa using hne) fun u h' tk hP ho hit' hT hsz hk => ?_
    obtain ⟨c, tc, hcx, rfl⟩ := hP
    refine ⟨_, rfl, wpAny_letOwnedTupleGo_enum (s := { s with heap := h', toks := tk + 1 }) ho fun h'' he' sb => ?_⟩
    have hT2 : h''.get? s.heap.objs.size = some { cls := .type "tuple", data := .seq #[.int i tk, .str ⟨#[c]⟩ tc] } := (sb.2 _ (Nat.ne_of_gt hel)).trans hT
    have new : ObjOk X.prog X.w (upd H s.heap.objs.size (.tup [.int (i : Nat), .str ⟨#[c]⟩])) h'' s.heap.objs.size (.tup [.int (i : Nat), .str ⟨#[c]⟩]) :=
      ⟨by show 2 ≤ sizeLine; decide, [.int i tk, .str ⟨#[c]⟩ tc], .cons ⟨_, rfl⟩ (.cons ⟨_, rfl⟩ .nil), ⟨_, hT2, rfl, _, rfl⟩⟩
    have I1 : Inv X pins σ (upd H s.heap.objs.size (.tup [.int (i : Nat), .str ⟨#[c]⟩])) { s with heap := h'', toks := tk + 1 } :=
      I.turnedNew (ch := [e, it]) (fun b ob hb q => (sb.2 b (fun z => hb (by simp [z]))).trans (hk b ob (fun z => hb (by simp [z])) (fun z => hb (by simp [z])) q)) hf (Nat.le_refl _) new
    refine ⟨.ref s.heap.objs.size, _, I1, rfl, ⟨_, c, rfl, I.hok.fresh (Nat.le_refl _), rfl, hcx⟩, ⟨⟨.str ⟨#[c]⟩ tc, ?_⟩, ?_, hne⟩, fun b hb => ?_⟩
    · have e1 : ((i + 1 : Nat) : Int) = (i : Int) + 1 := by omega
      rw [e1]; exact he'
    · obtain ⟨o, ho', r⟩ := hit'
      exact ⟨o, (sb.2 it (Ne.symm hne)).trans ho', r⟩
    · have hb' : b < s.heap.objs.size := by
        have e' : b = e ∨ b = it := by simpa using hb
        rcases e' with z | z
        · rw [z]; exact hel
        · rw [z]; exact hil
      rw [upd_ne (Nat.ne_of_lt hb')]
      exact (hf b hb).1
  done := by
    intro X hP hw hK hc i pins s σ H E I hf st hg
    subst hP hw hK
    obtain ⟨⟨old, he⟩, hit, hne⟩ := st
    obtain ⟨f0, f1, f2, f3, f4, f5⟩ := hf it (by simp)
    exact wpAny_pyNext_enum_endD (St := fun j h => j = i ∧ h.IsStrIter it (strIterType x) x t i) (draws_end (A := X.A.in1) (show X.A.in1.handled = none from I.ok.hd hc) it x t i hg) he ⟨rfl, hit⟩ fun h' eb => ⟨rfl, I.turned (t' := s.toks) (fun b o hb q => eb b o hb q) f0 f1 f3 f4 f5⟩
  self := fun A i s Q E st h => let ⟨⟨_, he⟩, _⟩ := st; wpAny_pyIter_enum he h
def iEnumS (ta : TA) : TI := fun σ H R => ta σ H fun vs H1 => ∃ x, vs = [.str x] ∧ R (Itx x) H1
theorem pi_enumS {X : Cx} {e : Expr} {ta : TA} {p pos tpos : Pos} {elts : List Expr} {kk : Nat} (hg : Gl X "enumerate") (hm : X.mg "enumerate" = none) (ha : PA X [e] ta) (hs : starEach [e] X.env = [(false, eval e X.env)] := by rfl) :
    PI X (.Tuple elts kk tpos) (.Call (.Name "enumerate" p) [e] [] pos) (iEnumS ta) := by
  refine ⟨fun pins s σ H R I h => ?_⟩
  refine Call_ (ld_blt I hg hm boot_enumerate (PyProof.Rows.callWith_type1 (thn (ha.run pos pins s σ H _ I h) fun us s1 ⟨vs, H1, I1, r1, q1⟩ => ?_) hs rfl))
  obtain ⟨x, ex, q⟩ := q1
  subst ex
  cases r1 with
  | cons r rr =>
    cases rr
    obtain ⟨t, rfl⟩ := r
    refine call_enumerate_str fun h' he hit hsz hk => wpAny_pyIter_enum he ?_
    have I2 : Inv X pins σ H1 { s1 with heap := h' } := I1.kept (t' := s1.toks) hk
    refine ⟨s1.heap.objs.size + 1, [s1.heap.objs.size + 1, s1.heap.objs.size], _, _, H1, rfl, I2, turn_enumS x t (s1.heap.objs.size + 1) s1.heap.objs.size, ⟨⟨.none, he⟩, hit, Nat.succ_ne_self _⟩, fun b hb => ?_, q⟩
    have e' : b = s1.heap.objs.size + 1 ∨ b = s1.heap.objs.size := by simpa using hb
    have hle : s1.heap.objs.size ≤ b := by
      rcases e' with z | z
      · rw [z]; exact Nat.le_add_right _ _
      · rw [z]; exact Nat.le_refl _
    exact I1.fpOk hle (I1.hok.fresh hle)
section
variable {K : PySem.W.Frag} {F : Hp}
theorem walks_enumS {st : List Nat} (ho : okS st = true) : Walks K F (Itx ⟨st.toArray⟩) (enumL 0 (st.map fun c => D.str [c])) := by
  have sz : (⟨st.toArray⟩ : Str).cps.size = st.length := by simp
  have le := enumL_len (st.map fun c => D.str [c]) 0
  rw [List.length_map] at le
  refine ⟨by rw [le]; exact okS_len ho, fun i H s hi => by show i < (⟨st.toArray⟩ : Str).cps.size; rw [sz]; omega, fun i H s hi => by show (⟨st.toArray⟩ : Str).cps.size ≤ i; rw [sz]; omega, fun i H x H' s y hi => ?_⟩
  obtain ⟨T, c, e, hT, eH, hc⟩ := y
  have hc' : st[i]? = some c := by simpa using hc
  refine ⟨.tup [.int ((0 + i : Nat) : Int), .str [c]], by rw [enumL_get, List.getElem?_map, hc']; rfl, .inr (.inl ⟨T, _, _, rfl, e, hT, eH, ?_⟩)⟩
  refine RL.cons (by unfold R; simp) (RL.cons ?_ RL.nil)
  unfold R
  refine ⟨rfl, ?_⟩
  unfold okS at ho ⊢
  simp only [Bool.and_eq_true] at ho
  have := List.all_eq_true.mp ho.2 c (List.mem_of_getElem? hc')
  simpa using this
end
section
variable {X : Cx} {Γ : Hp → Option Ea → Prop} {a : Expr} {fa : E} {p pos : Pos}
theorem ix_enumV {elts : List Expr} {kk : Nat} {tpos : Pos} (hg : Gl X "enumerate") (hm : X.mg "enumerate" = none) (ha : EX X Γ a fa) (hs : starEach [a] X.env = [(false, eval a X.env)] := by rfl) :
    IX X Γ (.Tuple elts kk tpos) (.Call (.Name "enumerate" p) [a] [] pos) (PV.iEnumV fa) := ⟨fun φ hφ => by
  refine PI.weak (PI.or (PI.good (pi_enum hg hm (pa_cons (ha.at' φ hφ) pa_nil (by rw [hs]; rfl)) hs)) (PI.good (pi_enumS hg hm (pa_cons (ha.at' φ hφ) pa_nil (by rw [hs]; rfl)) hs))) fun σ H R ⟨F, env, ds, env', r0, e, k⟩ => ?_
  unfold PV.iEnumV at e
  split at e
  · cases e
  · rename_i q env1 ea
    split at e
    · rename_i xs env2 ef
      cases e
      refine .inl ⟨F, env, q, env1, r0, ea, fun F1 H1 v s1 r1 h1 => ?_⟩
      obtain ⟨F2, s2, r2, h2⟩ := r1.freeze h1 ef
      unfold PV.R at h2
      obtain ⟨p, vs, rfl, g1, g2⟩ := h2
      refine ⟨p, vs, rfl, SqL.of (r2.sub _ _ g1), fun hg => k F2 H1 _ (s1.trans s2) r2 (walks_enum g1 g2 ?_)⟩
      rw [RL.length _ _ g2]
      exact hg p vs (.inl (SqL.of (r2.sub _ _ g1)))
    · rename_i st env2 ef
      cases e
      refine .inr ⟨F, env, q, env1, r0, ea, fun F1 H1 v s1 r1 h1 => ?_⟩
      obtain ⟨F2, s2, r2, h2⟩ := r1.freeze h1 ef
      unfold PV.R at h2
      exact ⟨_, by rw [h2.1], fun hg => k F2 H1 _ (s1.trans s2) r2 (walks_enumS h2.2)⟩
    · cases e⟩
end
end PV
end

section
set_option maxRecDepth 100000
namespace PV
open PySem PySem.Spec PyProof.Rows L2
variable [CodeTabs]
/-! ### list of a text -/
def rListS : List V → Hp → VK → Prop := fun xs H Q => ∃ x, xs = [.str x] ∧ x.cps.size ≤ 16777216 ∧ ∀ q, H q = none → Q (.ref q) (upd H q (.lst (x.cps.toList.map fun c => V.str ⟨#[c]⟩)))
theorem call_listS {X : Cx} (hc : X.calm = true) : CallR X (.type "list") rListS := by
  intro pins s σ H xs us Q I r h
  obtain ⟨x, e, hz, q⟩ := h
  subst e
  obtain ⟨u, eu, rx⟩ := vals1 r
  subst eu
  obtain ⟨t, rfl⟩ := rx
  have zz : (sizeLine : Nat) = 16777216 := sizeLine_eq
  refine call_list_str (I.ok.hd hc) x t (fun h' tk acc' c' hkeep hS hacc => ?_) (by omega)
  refine ⟨.ref s.heap.objs.size, upd H s.heap.objs.size (.lst (x.cps.toList.map fun c => V.str ⟨#[c]⟩)), I.laid hkeep (Nat.le_refl _) (show ObjOk X.prog X.w _ _ _ (.lst (x.cps.toList.map fun c => V.str ⟨#[c]⟩)) from ⟨?_, acc'.toList, c', ?_, ?_⟩), rfl, q _ (I.hok.fresh (Nat.le_refl _))⟩
  · rw [List.length_map, Array.length_toList]; omega
  · have el : acc'.toList.length = acc'.size := by simp
    refine vals_of_at (by rw [List.length_map, el, hacc.1, Array.length_toList]) fun j y w h1 h2 => ?_
    obtain ⟨c, u, hcx, rfl⟩ := hacc.2 j w (by rw [← Array.getElem?_toList]; exact h2)
    have e1 : (x.cps.toList.map fun c => V.str ⟨#[c]⟩)[j]? = some (V.str ⟨#[c]⟩) := by
      rw [List.getElem?_map, Array.getElem?_toList, hcx]; rfl
    rw [e1] at h1
    cases h1
    exact ⟨u, rfl⟩
  · simpa using hS
section
variable {K : PySem.W.Frag}
theorem rl_signs {F : Hp} : ∀ {st : List Nat}, okS st = true → RL K F (st.map fun c => D.str [c]) (st.map fun c => V.str ⟨#[c]⟩)
  | [], _ => RL.nil
  | c :: st, ho => by
    have h1 : okS [c] = true ∧ okS st = true := by
      unfold okS at ho ⊢
      simp only [Bool.and_eq_true, List.length_cons, List.all_cons] at ho ⊢
      simp only [decide_eq_true_eq] at ho ⊢
      exact ⟨⟨by simp, ho.2.1, rfl⟩, by omega, ho.2.2⟩
    refine RL.cons ?_ (rl_signs h1.2)
    unfold R
    exact ⟨rfl, h1.1⟩
theorem cd_listV : CallD K (fun xs H Q => (∃ p ys, xs = [.ref p] ∧ (SqL K H p ys ∨ SqT K H p ys) ∧ ∀ l, H l = none → Q (.ref l) (upd H l (.lst ys))) ∨ rListS xs H Q) dListV := by
  intro F H xs cs res Q s hc e
  unfold dListV at e
  split at e
  · cases e
    obtain ⟨v, rfl, hv⟩ := hc.one
    obtain ⟨p, vs, rfl, h1, h2⟩ := hv.lst s
    exact ⟨fun i q => (nomatch q), fun q => .inl ⟨p, vs, rfl, .inl (SqL.of h1), fun l hl => q l _ hl h2⟩⟩
  · cases e
    obtain ⟨v, rfl, hv⟩ := hc.one
    obtain ⟨p, vs, rfl, h1, h2⟩ := hv.tup s
    exact ⟨fun i q => (nomatch q), fun q => .inl ⟨p, vs, rfl, .inr h1, fun l hl => q l _ hl h2⟩⟩
  · cases e
    obtain ⟨v, rfl, hv⟩ := hc.one
    obtain ⟨p, rfl, h1⟩ := hv.scr s
    exact ⟨fun i q => (nomatch q), fun q => .inl ⟨p, _, rfl, .inl h1, fun l hl => q l _ hl (RL.ofInts _)⟩⟩
  · rename_i st
    cases e
    obtain ⟨v, rfl, hv⟩ := hc.one
    obtain ⟨e1, ho⟩ := hv.str
    refine ⟨fun i q => (nomatch q), fun q => .inr ⟨⟨st.toArray⟩, by rw [e1], by have := okS_len ho; simpa using this, fun l hl => q l _ hl ?_⟩⟩
    exact rl_signs ho
  · cases e
end
theorem call_listV {X : Cx} (hc : X.calm = true) : CallR X (.type "list") (fun xs H Q => (∃ p ys, xs = [.ref p] ∧ (SqL X.K H p ys ∨ SqT X.K H p ys) ∧ ∀ l, H l = none → Q (.ref l) (upd H l (.lst ys))) ∨ rListS xs H Q) := CallR.or call_list_of (call_listS hc)
section
variable {K : PySem.W.Frag}
theorem cd_str : CallD K (fun xs H Q => ∃ i, xs = [.int i] ∧ i.natAbs.log2 < 1920 ∧ Q (.str (toString i)) H) dStr := by
  intro F H xs cs res Q s hc e
  unfold dStr at e
  split at e
  · rename_i i
    split at e
    · rename_i h
      cases e
      obtain ⟨v, rfl, hv⟩ := hc.one
      refine ⟨fun i q => (nomatch q), fun q => ⟨i, by rw [hv.int], h.1, q.1 _ ?_⟩⟩
      unfold R
      refine ⟨?_, ?_⟩
      · show V.str (Str.ofString (toString i)) = _
        rw [Str.ofString_eq_toList]
      · unfold okS
        simp only [Bool.and_eq_true, decide_eq_true_eq]
        exact ⟨h.2.1, h.2.2⟩
    · cases e
  · cases e
end
theorem bt_str : bootBuiltins "str" = some (.type "str") := by decide +kernel
end PV
end

section
set_option maxRecDepth 100000
namespace PV
open PySem PySem.Spec PyProof.Rows L2
variable [CodeTabs]
/-! ### formatted texts -/
section
variable {K : PySem.W.Frag}
def rFmt : V → Hp → VK → Prop := fun x H1 Q => (∃ y : Str, x = .str y ∧ y.length ≤ sizeLine ∧ Q (.str y) H1) ∨ ∃ i : Int, x = .int i ∧ i.natAbs.log2 < 1920 ∧ Q (.str (toString i)) H1
theorem und_fmt : UnD K rFmt dFmt := by
  intro F H x c res Q s hc e
  have z : (sizeLine : Nat) = 16777216 := sizeLine_eq
  cases c with
  | str st =>
    simp only [dFmt] at e
    cases e
    obtain ⟨e1, ho⟩ := hc.str
    refine ⟨fun i q => (nomatch q), fun q => .inl ⟨_, e1, ?_, q.1 _ (by unfold R; exact ⟨rfl, ho⟩)⟩⟩
    have := okS_len ho
    show (⟨st.toArray⟩ : Str).cps.size ≤ sizeLine
    rw [z]; simpa using this
  | int i =>
    simp only [dFmt, dStr] at e
    split at e
    · rename_i h
      cases e
      refine ⟨fun i q => (nomatch q), fun q => .inr ⟨i, hc.int, h.1, q.1 _ ?_⟩⟩
      unfold R
      refine ⟨?_, ?_⟩
      · show V.str (Str.ofString (toString i)) = _
        rw [Str.ofString_eq_toList]
      · unfold okS
        simp only [Bool.and_eq_true, decide_eq_true_eq]
        exact ⟨h.2.1, h.2.2⟩
    · cases e
  | _ => simp only [dFmt] at e; cases e
theorem js_run {φ : Act} {σ : St} {Q : Str → Hp → Prop} {out : List Nat} {env' : Env} : ∀ (fs : List E) (acc : List Nat) (env : Env) (F H : Hp), okS acc = true → Rel K φ F env σ H → jsE fs acc env = some (out, env') →
    (∀ F' H', Same F F' → Rel K φ F' env' σ H' → okS out = true → Q ⟨out.toArray⟩ H') → tJs (fs.map (rE K φ)) ⟨acc.toArray⟩ σ H Q
  | [], acc, env, F, H, ho, r0, e, k => by
    unfold jsE at e
    cases e
    exact k F H (fun _ _ h => h) r0 ho
  | f :: fs, acc, env, F, H, ho, r0, e, k => by
    unfold jsE at e
    split at e
    · rename_i s env1 ef
      split at e
      · rename_i hl
        refine ⟨F, env, .fz (.str s), env1, r0, ef, fun F1 H1 v s1 r1 h1 => ?_⟩
        have h1 : R K F1 (.str s) v := h1
        unfold R at h1
        have z : (sizeLine : Nat) = 16777216 := sizeLine_eq
        have hcat : (⟨acc.toArray⟩ : Str) ++ ⟨s.toArray⟩ = ⟨(acc ++ s).toArray⟩ := SX.S_cat acc s
        refine ⟨⟨s.toArray⟩, h1.1, ?_, ?_⟩
        · rw [hcat]
          show (⟨(acc ++ s).toArray⟩ : Str).cps.size ≤ sizeLine
          rw [z]; simpa using hl
        · rw [hcat]
          refine js_run fs (acc ++ s) env1 F1 H1 ?_ r1 e fun F' H' s' r' o' => k F' H' (s1.trans s') r' o'
          have h2 := h1.2
          unfold okS at ho h2 ⊢
          simp only [Bool.and_eq_true, decide_eq_true_eq, List.length_append, List.all_append] at ho h2 ⊢
          exact ⟨hl, ho.2, h2.2⟩
      · cases e
    · cases e
end
section
variable {X : Cx} {Γ : Hp → Option Ea → Prop} {a b e : Expr} {f g : E} {pos : Pos}
theorem ex_fmt (ha : EX X Γ a f) : EX X Γ (.FormattedValue a (-1) none pos) (eUn dFmt f) := ⟨fun φ hφ => PE.weak (pe_fmt (ha.at' φ hφ)) fun _ _ _ h => rE_un und_fmt h⟩
inductive JX (X : Cx) (Γ : Hp → Option Ea → Prop) : List Expr → List E → Prop
  | nil : JX X Γ [] []
  | cons {e : Expr} {f : E} {es : List Expr} {fs : List E} (h : EX X Γ e f) (r : JX X Γ es fs) : JX X Γ (e :: es) (f :: fs)
theorem JX.pj {es : List Expr} {fs : List E} (h : JX X Γ es fs) (φ : Act) (hφ : Γ φ.F φ.ea) : PJ X es (fs.map (rE X.K φ)) := by
  induction h with
  | nil => exact .nil
  | cons h r ih => exact .cons (h.at' φ hφ) ih
theorem ex_js {v1 v2 : Expr} {rest : List Expr} {fs : List E} (h : JX X Γ (v1 :: v2 :: rest) fs) : EX X Γ (.JoinedStr (v1 :: v2 :: rest) pos) (eJs fs) := ⟨fun φ hφ => PE.weak (pe_joined (h.pj φ hφ)) fun σ H Q hq => by
  obtain ⟨F, env, r, env', r0, e, k⟩ := hq
  unfold eJs at e
  split at e
  · rename_i s env1 ej
    cases e
    refine js_run (K := X.K) fs [] env F H rfl r0 ej fun F' H' s' r' o' => ?_
    exact k F' H' _ s' r' (show R X.K F' (.str s) _ from by unfold R; exact ⟨rfl, o'⟩)
  · cases e⟩
end
/-! ### methods of texts -/
section
variable {K : PySem.W.Frag}
theorem spl_one (c : Nat) : ∀ (l acc : List Nat), TL.spl [c] 0 acc l = splC c acc l
  | [], acc => by rw [TL.spl_nil]; rfl
  | x :: r, acc => by
    unfold splC
    by_cases h : x = c
    · subst h
      rw [TL.spl_hit (by simp [TL.pre]), if_pos rfl]
      simp [spl_one x r []]
    · rw [TL.spl_miss (TL.pre_of_head [] r h), if_neg h, spl_one c r]
theorem splC_ok (c : Nat) : ∀ (l acc : List Nat), (acc ++ l).all (· < 0x110000) = true → ∀ p ∈ splC c acc l, p.all (· < 0x110000) = true ∧ p.length ≤ (acc ++ l).length
  | [], acc, h, p, hp => by
    simp only [splC, List.mem_singleton] at hp
    subst hp
    exact ⟨by simpa using h, by simp⟩
  | x :: r, acc, h, p, hp => by
    unfold splC at hp
    simp only [List.all_append, List.all_cons, Bool.and_eq_true] at h
    split at hp
    · rcases List.mem_cons.1 hp with rfl | hp
      · exact ⟨h.1, by simp⟩
      · have := splC_ok c r [] (by simpa using h.2.2) p hp
        exact ⟨this.1, by have := this.2; simp at this ⊢; omega⟩
    · have := splC_ok c r (acc ++ [x]) (by simp only [List.all_append, List.all_cons, List.all_nil, Bool.and_eq_true]; exact ⟨⟨h.1, h.2.1, trivial⟩, h.2.2⟩) p hp
      exact ⟨this.1, by have := this.2; simp at this ⊢; omega⟩
theorem rl_texts {F : Hp} : ∀ {ls : List (List Nat)}, (∀ p ∈ ls, okS p = true) → RL K F (ls.map D.str) ((ls.map fun p => (⟨p.toArray⟩ : Str)).map V.str)
  | [], _ => RL.nil
  | p :: ls, h => RL.cons (by unfold R; exact ⟨rfl, h p (by simp)⟩) (rl_texts fun q hq => h q (by simp [hq]))
theorem md_split : MethD K (fun x xs H Q => ∃ a b, x = .str a ∧ xs = [.str b] ∧ (b.length == 0) = false ∧ a.length + 2 ≤ sizeLine ∧ rNewStrs (Txt.split a b) H Q) mSplit := by
  intro F H x xs c cs res Q s hc hcs e
  unfold mSplit at e
  split at e
  · rename_i a ch
    split at e
    · rename_i h
      cases e
      obtain ⟨v, rfl, hv⟩ := hcs.one
      obtain ⟨e1, ho⟩ := hc.str
      have z : (sizeLine : Nat) = 16777216 := sizeLine_eq
      refine ⟨fun i q => (nomatch q), fun q => ⟨_, _, e1, by rw [hv.str.1], rfl, ?_, fun p hp => ?_⟩⟩
      · show (⟨a.toArray⟩ : Str).cps.size + 2 ≤ sizeLine
        rw [z]; simpa using h.2
      · have es : Txt.split ⟨a.toArray⟩ ⟨[ch].toArray⟩ = (splC ch [] a).map fun p => (⟨p.toArray⟩ : Str) := by
          have := SX.split_S (a := a) (b := [ch]) (by simp) (by simpa using h.1)
          rw [spl_one] at this
          exact this
        rw [es]
        refine q p _ hp ?_
        show RL K F _ _
        refine rl_texts fun p' hp' => ?_
        unfold okS at ho
        simp only [Bool.and_eq_true, decide_eq_true_eq] at ho
        have := splC_ok ch a [] (by simpa using ho.2) p' hp'
        unfold okS
        simp only [Bool.and_eq_true, decide_eq_true_eq]
        exact ⟨by have := this.2; simp at this; omega, this.1⟩
    · cases e
  · cases e
theorem md_starts : MethD K (fun x xs H Q => ∃ a b, x = .str a ∧ xs = [.str b] ∧ Q (.bl (Txt.startswith a b)) H) mStarts := by
  intro F H x xs c cs res Q s hc hcs e
  unfold mStarts at e
  split at e
  · rename_i a b
    cases e
    obtain ⟨v, rfl, hv⟩ := hcs.one
    refine ⟨fun i q => (nomatch q), fun q => ⟨_, _, hc.str.1, by rw [hv.str.1], ?_⟩⟩
    have e1 : Txt.startswith ⟨a.toArray⟩ ⟨b.toArray⟩ = decide (a.take b.length = b) := by
      unfold Txt.startswith
      rw [StrLaws.subAt_eq]
      have l1 : (⟨a.toArray⟩ : Str).length = a.length := SX.S_len a
      have l2 : (⟨b.toArray⟩ : Str).length = b.length := SX.S_len b
      rw [l1, l2, Bool.eq_iff_iff]
      simp only [List.drop_zero, Bool.and_eq_true, decide_eq_true_eq, beq_iff_eq]
      refine ⟨fun h => h.2, fun h => ⟨?_, h⟩⟩
      have := congrArg List.length h
      rw [List.length_take] at this
      omega
    rw [e1]; exact q.1 _ (by unfold R; rfl)
  · cases e
theorem md_upper : MethD K (fun x xs H Q => ∃ a, x = .str a ∧ xs = [] ∧ a.length ≤ 5592405 ∧ Q (.str (Txt.upper a)) H) mUpper := by
  intro F H x xs c cs res Q s hc hcs e
  unfold mUpper at e
  split at e
  · rename_i a
    split at e
    · rename_i h
      cases e
      obtain ⟨e1, ho⟩ := hc.str
      refine ⟨fun i q => (nomatch q), fun q => ⟨_, e1, ?_, ?_, ?_⟩⟩
      · cases hcs; rfl
      · show (⟨a.toArray⟩ : Str).cps.size ≤ 5592405
        simpa using h.1
      · have es : Txt.upper ⟨a.toArray⟩ = ⟨(a.map upC).toArray⟩ := SX.upper_S h.2
        rw [es]
        refine q.1 _ ?_
        unfold R
        refine ⟨rfl, ?_⟩
        unfold okS at ho ⊢
        simp only [Bool.and_eq_true, decide_eq_true_eq, List.length_map, List.all_map] at ho ⊢
        refine ⟨ho.1, List.all_eq_true.2 fun x hx => ?_⟩
        have := List.all_eq_true.1 h.2 x hx
        simp only [decide_eq_true_eq] at this
        have h2 : upC x < 1114112 := by
          unfold upC
          split <;> omega
        simpa using h2
    · cases e
  · cases e
theorem slot_splitS : PySem.Slot "str" "split" "str.split" := PySem.F.slot_str_split
theorem slot_startsS : PySem.Slot "str" "startswith" "str.startswith" := PySem.F.slot_str_startswith
theorem slot_upperS : PySem.Slot "str" "upper" "str.upper" := PySem.F.slot_str_upper
end
end PV
end

section
set_option maxRecDepth 100000
namespace PV
open PySem PySem.Spec PyProof.Rows L2
variable [CodeTabs]

/-! ### defs that call repr: no repr is under way where they are called -/
structure FnG (P : Program) (w : World) (K : PySem.W.Frag) (mg : Str → Option Value) (base : Heap) (T : CXT) (k : Nat) (f : Addr) (fd : FuncData) (ps : List Str) (sp : Sp) : Prop where
  len : ∀ vs H Q E, sp vs H Q E → vs.length = ps.length
  run : ∀ {A : Around} {outer : List PySem.Env} {s : Shared} {H : Hp} {args : Args} {us : List Value} {vs : List V} {Q : VK} {E : XK}, A.guards = some [] → Room k A → Env0 P w K mg base A outer s H →
    BindsTo s fd args (ps.zip us) → Vals vs us → sp vs H Q E → codeAny (model P w) A (.call (.ref f) args) (CR T outer P w H s Q E) s
section
variable {P : Program} {w : World} {K : PySem.W.Frag} {mg : Str → Option Value} {base : Heap}
theorem FnG.weak {T : CXT} {k : Nat} {f : Addr} {fd : FuncData} {ps : List Str} {sp sp' : Sp} (F : FnG P w K mg base T k f fd ps sp) (h : ∀ vs H Q E, sp' vs H Q E → sp vs H Q E) : FnG P w K mg base T k f fd ps sp' :=
  ⟨fun vs H Q E q => F.len vs H Q E (h _ _ _ _ q), fun hG hr e0 hb r hs => F.run hG hr e0 hb r (h _ _ _ _ hs)⟩
theorem fnG_of {T : CXT} {x qual : Str} {st : Stmt} {f : Addr} {fd : FuncData} {N ps : List Str} {k : Nat} {sp : Sp} (Fn : Fun K x qual st f fd) (Sc : FnScope N ps (defScope st)) (len : ∀ vs H Q E, sp vs H Q E → vs.length = ps.length)
    (hbody : ∀ (cdv : Value) (A : Around) (outer : List PySem.Env) (s : Shared) (H : Hp) (vs : List V) (Q : VK) (E : XK), A.guards = some [] → Room k (A.deeper (envOfC qual (defScope st) s.heap.objs.size f cdv)) → sp vs H Q E →
      ∃ t, PSs (cxOf T P w K mg base N qual (defScope st) f cdv A outer s H E) (defBody st) t ∧ t { nx := fun _ H' => Q .non H', rt := Q } (L2.start N vs) H) : FnG P w K mg base T (k + 1) f fd ps sp := by
  obtain ⟨oc, od, kV, doc, pm, an, cdv, ct, osl, rfl, lk, hcd⟩ := Fn.ex
  refine ⟨len, ?_⟩
  intro A outer s H args us vs Q E hG hr e0 hb r hsp
  have keep : ∀ b o, base.get? b = some o → s.heap.get? b = some o := fun b o e => (e0.bs b o e).1
  have par : ∀ y ∈ ps.zip us, (defScope st).names.lookup y.1 = some .local ∨ ((defScope st).names.lookup y.1 = some .cell ∧ ((cellsFrom (s.heap.objs.size + 1) (defScope st).names []).lookup y.1).isSome = true) := by
    rintro ⟨n, v⟩ hy
    refine (Sc.par n (List.of_mem_zip hy).1).imp id fun q => ⟨q, ?_⟩
    exact PySem.W.cellsFrom_some _ _ _ (.inl q)
  refine codeAny_call_function hr.depth ((e0.mod.kin.keeps keep) _ _ lk) rfl Sc.co Sc.gen rfl (PySem.W.codeRec_of (e0.mod.kin.keeps keep) hcd) (hb _ _ _ _ (wpAny_newFunctionEnv_cells Sc.kind par fun env he s1 x => ?_))
  subst he
  refine ⟨(e0.mod.nolimit.keeps keep).keeps x.toInCall.keep, codeAny_func ?_⟩
  obtain ⟨t, ht, hq⟩ := hbody cdv A outer s H vs Q E hG (hr.deeper _) hsp
  have I0 := L2.inv_start (CX := T) (E := E) Sc hr.hd e0 (len _ _ _ _ hsp) r x
  refine wpAny_mono (ht.run [] s1 (L2.start N vs) H _ I0 hq) (fun fl s' hs => ?_) fun e s' hs => hs
  cases fl with
  | ret u => obtain ⟨v, σ', H', J, rv, q⟩ := hs; exact ⟨v, H', J.os, J.bare, J.base, J.hok, rv, q⟩
  | next => obtain ⟨σ', H', J, q⟩ := hs; exact ⟨V.non, H', J.os, J.bare, J.base, J.hok, rfl, q⟩
  | brk => obtain ⟨_, _, _, q⟩ := hs; exact q.elim
  | cont => obtain ⟨_, _, _, q⟩ := hs; exact q.elim
theorem fnG_ok {x qual : Str} {st : Stmt} {f : Addr} {fd : FuncData} {N ps : List Str} {k : Nat} {cm : CM} {body : S} (Fn : Fun K x qual st f fd) (S : FnScope N ps (defScope st))
    (hbody : ∀ (cdv : Value) (A : Around) (outer : List PySem.Env) (s : Shared) (H : Hp) (E : XK), A.guards = some [] → Room k (A.deeper (envOfC qual (defScope st) s.heap.objs.size f cdv)) →
      SsX (cxOf (L2.CX P w) P w K mg base N qual (defScope st) f cdv A outer s H E) (fun _ _ => True) cm (fun cls d _ H => E cls d H) (defBody st) body) :
    FnG P w K mg base (L2.CX P w) (k + 1) f fd ps (spF K cm ps.length (fnOf N.length body)) := by
  refine fnG_of Fn S (fun vs H Q E h => ?_) (fun cdv A outer s H vs Q E hG hr h => fn_read S (hbody cdv A outer s H E hG hr) h)
  obtain ⟨F, as, io, res, hn, _, _, ha, _⟩ := h
  rw [← ha.len, hn]
end
section
variable {X : Cx} {T : CXT} {k : Nat} {f : Addr} {fd : FuncData} {ps : List Str} {sp : Sp} {E : St → XK} {x : Str} {q pos : Pos} {e : Expr} {es : List Expr} {t : TA}
theorem pe_callG (F : FnG X.prog X.w X.K X.mg X.base T k f fd ps sp) (hr : Room k X.A) (hG : X.A.guards = some []) (hg : Gl X x) (hm : X.mg x = some (.ref f)) (hk : PySem.W.keepIn X.K (.ref f) = true) (hb : Binds X.K fd ps []) (hx : ∀ σ, PassesAt T X σ (E σ))
    (ha : PA X (e :: es) t) (hdb : (x == ("__debug__" : Str)) = false) (he : starEach (e :: es) X.env = (false, eval e X.env) :: starEach es X.env) (hpl : (backTo pos (starEach es X.env)).any (·.1) = false) :
    PE X (.Call (.Name x q) (e :: es) [] pos) (tCallS sp E t) := by
  constructor
  intro pins s σ H Q I h
  refine wpAny_Call_Name_kw (ld_glob I hg hm (PySem.W.callWith_K (h₀ := X.base) I.ok.mod.kin hk (thn (ha.run pos pins s σ H _ I h) fun us s1 hh => ?_) he hpl) hdb)
  obtain ⟨vs, H1, I1, r, hq⟩ := hh
  refine ⟨I1.kIn, ?_⟩
  have hl : us.length = ps.length := r.length.symm.trans (F.len _ _ _ _ hq)
  have b := hb s1 us I1.kIn (by rw [List.append_nil]; exact hl)
  rw [List.append_nil] at b
  refine wpAny_call (codeAny_mono (F.run (args := ⟨us, []⟩) hG hr I1.env0 b r hq) fun res s' hres => ?_)
  cases res with
  | error er => exact hx σ pins H1 s1 er s' I1 hres
  | ok fl =>
    cases fl with
    | ret u => exact I1.after hres
    | next => exact hres.elim
    | brk => exact hres.elim
    | cont => exact hres.elim
end
section
variable {X : Cx} {Γ : Hp → Option Ea → Prop} {cm : CM} {W : WX} {k n : Nat} {f : Addr} {fd : FuncData} {ps : List Str} {G : Fn} {x : Str} {p pos : Pos} {a : Expr} {es : List Expr} {g : EL}
theorem ex_callG (ms : List Bool) (F : FnG X.prog X.w X.K X.mg X.base (L2.CX X.prog X.w) k f fd ps (spF X.K cm n G)) (hr : Room k X.A) (hG : X.A.guards = some []) (hg : Gl X x) (hm : X.mg x = some (.ref f)) (hk : PySem.W.keepIn X.K (.ref f) = true) (hb : Binds X.K fd ps [])
    (hn : ms.length = n) (ha : AX X Γ (a :: es) g) (hdb : (x == ("__debug__" : Str)) = false := by decide) (he : starEach (a :: es) X.env = (false, eval a X.env) :: starEach es X.env := by rfl) (hpl : (backTo pos (starEach es X.env)).any (·.1) = false := by rfl) :
    EX X Γ (.Call (.Name x p) (a :: es) [] pos) (eCall G ms g) :=
  ⟨fun φ hφ => PE.weak (pe_callG (E := fun _ => E0) F hr hG hg hm hk hb (fun σ pins H s e s' I h => passL pins σ H s e s' I h) (ha.at' φ hφ) hdb he hpl) fun σ H Q h => by
    obtain ⟨F, env, rs, env', r0, e, kk⟩ := rE_call (cm := cm) hn h
    exact ⟨F, env, rs, env', r0, e, fun F' H' vs s' r' h' => kk F' H' vs s' r' h'⟩⟩
end

/-! ### repr of data that is not deep -/
def leafR : D → Bool
  | .non => true
  | .bl _ => true
  | .int i => decide (i.natAbs < 10 ^ 60)
  | .str s => decide (s.length ≤ 20) && s.all (· < 0x110000)
  | _ => false
def widA : Nat → Nat
  | 0 => 64
  | 1 => 64
  | _ => 16
def widB : Nat → Nat
  | 0 => 64
  | _ => 1000
def levR (widR : Nat → Nat) : Nat → D → Bool
  | 0, d => leafR d
  | n + 1, .lst xs => decide (xs.length ≤ widR n) && xs.all (levR widR n)
  | n + 1, .tup xs => decide (xs.length ≤ widR n) && xs.all (levR widR n)
  | _ + 1, d => leafR d
def okD : D → Bool
  | .str s => okS s
  | _ => true
def txtR (d : D) : List Nat := d.py.shown.cps.toList
def dRepr : List D → Option RV
  | [d] => if (levR widA 3 d || levR widB 2 d) = true then some (.fz (.str (txtR d))) else none
  | _ => none

omit [CodeTabs] in
theorem lev_shal {widR : Nat → Nat} : ∀ (n : Nat) (d : D), levR widR n d = true → d.shal n = true
  | 0, d, h => by
    cases d <;> first | rfl | (cases h)
  | n + 1, d, h => by
    cases d with
    | lst xs =>
      unfold levR at h
      simp only [Bool.and_eq_true] at h
      show shalL n xs = true
      have h2 := h.2
      clear h
      induction xs with
      | nil => rfl
      | cons x xs ih =>
        simp only [List.all_cons, Bool.and_eq_true] at h2
        simp only [shalL, Bool.and_eq_true]
        exact ⟨lev_shal n x h2.1, ih h2.2⟩
    | tup xs =>
      unfold levR at h
      simp only [Bool.and_eq_true] at h
      show shalL n xs = true
      have h2 := h.2
      clear h
      induction xs with
      | nil => rfl
      | cons x xs ih =>
        simp only [List.all_cons, Bool.and_eq_true] at h2
        simp only [shalL, Bool.and_eq_true]
        exact ⟨lev_shal n x h2.1, ih h2.2⟩
    | dic _ _ => cases h
    | scr _ => cases h
    | _ => rfl
theorem log_small {i : Int} (h : i.natAbs < 10 ^ 60) : i.natAbs.log2 < 1920 := by
  by_cases h0 : i.natAbs = 0
  · rw [h0]; decide
  · exact Nat.lt_of_lt_of_le ((Nat.log2_lt h0).mpr (Nat.lt_of_lt_of_le h (show 10 ^ 60 ≤ 2 ^ 200 by decide))) (by decide)
theorem leaf_showable {d : D} (h : leafR d = true) : d.py.showable = true ∧ d.py.hasDict = false := by
  cases d with
  | int i => simp only [leafR, decide_eq_true_eq] at h; simp only [D.py, PyData.showable, PyData.hasDict, decide_eq_true_eq]; exact ⟨log_small h, trivial⟩
  | lst _ => cases h
  | tup _ => cases h
  | dic _ _ => cases h
  | scr _ => cases h
  | _ => exact ⟨rfl, rfl⟩
theorem showable_py {widR : Nat → Nat} : ∀ (n : Nat) (d : D), levR widR n d = true → d.py.showable = true ∧ d.py.hasDict = false
  | 0, d, h => leaf_showable h
  | n + 1, d, h => by
    have all : ∀ xs : List D, xs.all (levR widR n) = true → PyData.showableAll (pyL xs) = true ∧ PyData.hasDictAll (pyL xs) = false := by
      intro xs
      induction xs with
      | nil => exact fun _ => ⟨rfl, rfl⟩
      | cons x xs ih =>
        intro h2
        simp only [List.all_cons, Bool.and_eq_true] at h2
        have q1 := showable_py n x h2.1
        have q2 := ih h2.2
        simp only [pyL, PyData.showableAll, PyData.hasDictAll, q1, q2]
        exact ⟨rfl, rfl⟩
    cases d with
    | lst xs =>
      unfold levR at h
      simp only [Bool.and_eq_true] at h
      simp only [D.py, PyData.showable, PyData.hasDict]
      exact all xs h.2
    | tup xs =>
      unfold levR at h
      simp only [Bool.and_eq_true] at h
      simp only [D.py, PyData.showable, PyData.hasDict]
      exact all xs h.2
    | dic _ _ => cases h
    | scr _ => cases h
    | non => exact leaf_showable h
    | bl _ => exact leaf_showable h
    | int _ => exact leaf_showable h
    | str _ => exact leaf_showable h
theorem dp_plain {K : PySem.W.Frag} {H : Hp} {v : V} {d : PyData} (h : Dp K H v d) : (v = .non ∧ d = .none) ∨ (∃ b, v = .bl b ∧ d = .bool b) ∨ (∃ i, v = .int i ∧ d = .int i) ∨ (∃ x, v = .str x ∧ d = .str x) ∨ ∃ a, v = .ref a := by
  cases h with
  | non => exact .inl ⟨rfl, rfl⟩
  | bl b => exact .inr (.inl ⟨b, rfl, rfl⟩)
  | int i => exact .inr (.inr (.inl ⟨i, rfl, rfl⟩))
  | str x => exact .inr (.inr (.inr (.inl ⟨x, rfl, rfl⟩)))
  | lst _ _ => exact .inr (.inr (.inr (.inr ⟨_, rfl⟩)))
  | tup _ _ => exact .inr (.inr (.inr (.inr ⟨_, rfl⟩)))
/-! the signs and the length of what is shown -/
def cpOk (x : Str) : Prop := ∀ c ∈ x.cps.toList, c < 0x110000
theorem cp_app {x y : Str} (h : cpOk x) (h' : cpOk y) : cpOk (x ++ y) := by
  intro c hc
  have e : (x ++ y).cps.toList = x.cps.toList ++ y.cps.toList := by
    show (x.cps ++ y.cps).toList = _
    rw [Array.toList_append]
  rw [e] at hc
  exact (List.mem_append.mp hc).elim (h c) (h' c)
theorem cp_char (c : Char) : c.toNat < 0x110000 := by
  rcases c.valid with h | h
  · exact Nat.lt_trans h (by decide)
  · exact h.2
theorem cp_of (s : String) : cpOk (Str.ofString s) := by
  intro c hc
  rw [Str.ofString_eq_toList] at hc
  have hc : c ∈ (s.toList.map Char.toNat) := by simpa using hc
  obtain ⟨x, _, rfl⟩ := List.mem_map.mp hc
  exact cp_char x
theorem cp_from : ∀ (ts : List Str) (k : Nat) (acc : Str), cpOk acc → (∀ t ∈ ts, cpOk t) → cpOk (textFrom k acc ts)
  | [], _, _, h, _ => h
  | t :: r, k, acc, h, ht => by
    refine cp_from r (k + 1) _ (cp_app (cp_app h (cp_of _)) (ht t List.mem_cons_self)) fun u hu => ht u (List.mem_cons_of_mem _ hu)
theorem cp_join (sep : Str) (hs : cpOk sep) : ∀ ts : List Str, (∀ t ∈ ts, cpOk t) → cpOk (Str.join sep ts)
  | [], _ => fun c hc => by cases hc
  | [t], h => h t List.mem_cons_self
  | t :: u :: r, h => by
    show cpOk (t ++ sep ++ Str.join sep (u :: r))
    exact cp_app (cp_app (h t List.mem_cons_self) hs) (cp_join sep hs (u :: r) fun v hv => h v (List.mem_cons_of_mem _ hv))
theorem cp_hex (w c : Nat) : ∀ x ∈ (List.replicate (w - ((Nat.toDigits 16 c).map Char.toNat).length) 48 ++ (Nat.toDigits 16 c).map Char.toNat), x < 0x110000 := by
  intro x hx
  rcases List.mem_append.mp hx with h | h
  · rw [(List.mem_replicate.mp h).2]; decide
  · obtain ⟨y, _, rfl⟩ := List.mem_map.mp h
    exact cp_char y
theorem cp_sign {q c : Nat} (hc : c < 0x110000) : ∀ x ∈ Builtin.Str.reprChar q c, x < 0x110000 := by
  have h2 := cp_hex 2 c
  have h4 := cp_hex 4 c
  have h8 := cp_hex 8 c
  intro x hx
  unfold Builtin.Str.reprChar at hx
  dsimp only at hx
  repeat' split at hx
  all_goals simp only [List.mem_cons, List.mem_append, List.not_mem_nil, or_false] at hx
  all_goals first | (rcases hx with rfl | rfl <;> omega) | (subst hx; exact hc) | skip
  · rcases hx with (rfl | rfl) | hx
    · decide
    · decide
    · exact h2 x (List.mem_append.mpr hx)
  · rcases hx with (rfl | rfl) | hx
    · decide
    · decide
    · exact h4 x (List.mem_append.mpr hx)
  · rcases hx with (rfl | rfl) | hx
    · decide
    · decide
    · exact h8 x (List.mem_append.mpr hx)
theorem cp_fold (q : Nat) : ∀ (l : List Nat) (acc : Array Nat), (∀ c ∈ l, c < 0x110000) → (∀ c ∈ acc.toList, c < 0x110000) → ∀ c ∈ (l.foldl (fun out c => out ++ (Builtin.Str.reprChar q c).toArray) acc).toList, c < 0x110000
  | [], acc, _, h => h
  | x :: l, acc, hl, h => by
    rw [List.foldl_cons]
    refine cp_fold q l _ (fun c hc => hl c (List.mem_cons_of_mem _ hc)) fun c hc => ?_
    rw [Array.toList_append] at hc
    rcases List.mem_append.mp hc with h' | h'
    · exact h c h'
    · exact cp_sign (hl x List.mem_cons_self) c h'
theorem cp_repr {x : Str} (h : cpOk x) : cpOk (reprText x) := by
  intro c hc
  unfold reprText at hc
  have hq : reprQuote x < 0x110000 := by unfold reprQuote; split <;> decide
  have hc : c ∈ ((x.cps.foldl (fun out c => out ++ (Builtin.Str.reprChar (reprQuote x) c).toArray) #[reprQuote x]).push (reprQuote x)).toList := hc
  rw [Array.toList_push, ← Array.foldl_toList] at hc
  rcases List.mem_append.mp hc with h' | h'
  · exact cp_fold (reprQuote x) _ _ h (fun c hc => by rw [List.mem_singleton.mp hc]; exact hq) c h'
  · rw [List.mem_singleton.mp h']; exact hq
def bndR (widR : Nat → Nat) : Nat → Nat
  | 0 => 210
  | n + 1 => widR n * (bndR widR n + 2) + 3
theorem leaf_bnd {d : D} (h : leafR d = true) : cpOk d.py.shown ∧ d.py.shown.length ≤ 210 := by
  cases d with
  | non => simp only [D.py, PyData.shown_none]; exact ⟨cp_of _, by decide⟩
  | bl b => simp only [D.py, PyData.shown_bool]; cases b <;> exact ⟨cp_of _, by decide⟩
  | int i =>
    simp only [leafR, decide_eq_true_eq] at h
    simp only [D.py, PyData.shown_int]
    refine ⟨cp_of _, ?_⟩
    have := int_text_length_le10 (k := 60) (by decide) h
    rw [PySem.ofString_length]; omega
  | str s =>
    simp only [leafR, Bool.and_eq_true, decide_eq_true_eq, List.all_eq_true] at h
    simp only [D.py, PyData.shown_str]
    refine ⟨cp_repr fun c hc => h.2 c (by simpa using hc), ?_⟩
    have := StrLaws.reprText_len ⟨s.toArray⟩ (fun c hc => Nat.lt_trans (h.2 c (by simpa using hc)) (by decide))
    have e : (Str.mk s.toArray).length = s.length := by simp [Str.length]
    rw [e] at this
    omega
  | lst _ => cases h
  | tup _ => cases h
  | dic _ _ => cases h
  | scr _ => cases h
theorem sum_bnd {m : Nat} : ∀ l : List Nat, (∀ x ∈ l, x ≤ m) → l.sum ≤ l.length * m
  | [], _ => by simp
  | x :: l, h => by
    have h1 := h x List.mem_cons_self
    have h2 := sum_bnd l fun y hy => h y (List.mem_cons_of_mem _ hy)
    simp only [List.sum_cons, List.length_cons, Nat.succ_mul]
    omega
theorem bnd_mono {widR : Nat → Nat} (hW : ∀ n, 1 ≤ widR n) : ∀ n, 210 ≤ bndR widR n
  | 0 => Nat.le_refl _
  | n + 1 => by
    have := bnd_mono hW n
    have hw : 1 ≤ widR n := hW n
    have := Nat.mul_le_mul hw (Nat.le_refl (bndR widR n + 2))
    show 210 ≤ widR n * (bndR widR n + 2) + 3
    omega
theorem lev_bnd {widR : Nat → Nat} (hW : ∀ n, 1 ≤ widR n) : ∀ (n : Nat) (d : D), levR widR n d = true → cpOk d.py.shown ∧ d.py.shown.length ≤ bndR widR n
  | 0, d, h => leaf_bnd h
  | n + 1, d, h => by
    have leaf : leafR d = true → cpOk d.py.shown ∧ d.py.shown.length ≤ bndR widR (n + 1) := fun h => ⟨(leaf_bnd h).1, Nat.le_trans (leaf_bnd h).2 (bnd_mono hW _)⟩
    have all : ∀ xs : List D, xs.all (levR widR n) = true → (∀ t ∈ PyData.shownAll (pyL xs), cpOk t ∧ t.length ≤ bndR widR n) ∧ (PyData.shownAll (pyL xs)).length = xs.length := by
      intro xs
      induction xs with
      | nil => intro _; simp only [pyL, PyData.shownAll]; exact ⟨fun t ht => (nomatch ht), rfl⟩
      | cons x xs ih =>
        intro h2
        simp only [List.all_cons, Bool.and_eq_true] at h2
        have q2 := ih h2.2
        simp only [pyL, PyData.shownAll]
        refine ⟨fun t ht => ?_, by rw [List.length_cons, List.length_cons, q2.2]⟩
        rcases List.mem_cons.mp ht with rfl | ht
        · exact lev_bnd hW n x h2.1
        · exact q2.1 t ht
    have size : ∀ (ts : List Str) (m z : Nat), m ≤ widR n → ts.length = m → (∀ t ∈ ts, cpOk t ∧ t.length ≤ bndR widR n) → z ≤ (ts.map (·.length)).sum + 2 * ts.length + 3 → z ≤ bndR widR (n + 1) := fun ts m z hm hl ht hz => by
      have h1 := sum_bnd (m := bndR widR n) (ts.map (·.length)) (fun x hx => by obtain ⟨t, ht', rfl⟩ := List.mem_map.mp hx; exact (ht t ht').2)
      rw [List.length_map, hl] at h1
      have h2 := Nat.mul_le_mul hm (Nat.le_refl (bndR widR n + 2))
      rw [Nat.mul_add] at h2
      show z ≤ widR n * (bndR widR n + 2) + 3
      omega
    cases d with
    | lst xs =>
      unfold levR at h
      simp only [Bool.and_eq_true, decide_eq_true_eq] at h
      obtain ⟨q1, q2⟩ := all xs h.2
      simp only [D.py, PyData.shown]
      refine ⟨cp_app (cp_from _ _ _ (cp_of _) fun t ht => (q1 t ht).1) (cp_of _), size _ _ _ h.1 q2 q1 (listText_len_le _)⟩
    | tup xs =>
      unfold levR at h
      simp only [Bool.and_eq_true, decide_eq_true_eq] at h
      obtain ⟨q1, q2⟩ := all xs h.2
      simp only [D.py, PyData.shown]
      refine ⟨?_, size _ _ _ h.1 q2 q1 (tupleText_len_le _)⟩
      unfold tupleText
      exact cp_app (cp_app (cp_of _) (cp_join _ (cp_of _) _ fun t ht => (q1 t ht).1)) (cp_of _)
    | dic _ _ => cases h
    | scr _ => cases h
    | non => exact leaf h
    | bl _ => exact leaf h
    | int _ => exact leaf h
    | str _ => exact leaf h
theorem widA_pos (n : Nat) : 1 ≤ widA n := by unfold widA; split <;> decide
theorem widB_pos (n : Nat) : 1 ≤ widB n := by unfold widB; split <;> decide
theorem lev_okS' {widR : Nat → Nat} (hW : ∀ n, 1 ≤ widR n) {n : Nat} (e : bndR widR n ≤ 16777216) {d : D} (h : levR widR n d = true) : okS (txtR d) = true := by
  have q := lev_bnd hW n d h
  unfold okS txtR
  simp only [Bool.and_eq_true, decide_eq_true_eq, List.all_eq_true, Array.length_toList]
  exact ⟨Nat.le_trans q.2 e, q.1⟩
theorem lev_okS {d : D} (h : (levR widA 3 d || levR widB 2 d) = true) : okS (txtR d) = true := by
  rcases Bool.or_eq_true .. ▸ h with h | h
  · exact lev_okS' widA_pos (by decide) h
  · exact lev_okS' widB_pos (by decide) h
theorem lev_any {d : D} (h : (levR widA 3 d || levR widB 2 d) = true) : ∃ n, n ≤ 3 ∧ d.shal n = true ∧ d.py.showable = true ∧ d.py.hasDict = false := by
  rcases Bool.or_eq_true .. ▸ h with h | h
  · exact ⟨3, Nat.le_refl _, lev_shal 3 d h, showable_py 3 d h⟩
  · exact ⟨2, by decide, lev_shal 2 d h, showable_py 2 d h⟩
def rRepr (K : PySem.W.Frag) : List V → Hp → VK → Prop := fun xs H Q => ∃ v d, xs = [v] ∧ Dp K H v d ∧ d.showable = true ∧ d.hasDict = false ∧ d.depth ≤ 3 ∧ d.shown.length ≤ sizeLine ∧ Q (.str d.shown) H
theorem call_reprV {X : Cx} (hG : X.A.guards = some []) (hu : X.A.units + 65 < cLine) : CallR X (.builtin "repr") (rRepr X.K) := by
  intro pins s σ H xs us Q I r h
  obtain ⟨v, d, rfl, hd, hs, hn, hdp, hz, q⟩ := h
  obtain ⟨u, eu, rx⟩ := vals1 r
  subst eu
  have fin : ∀ (h' : Heap) (t tk : Tok), (∀ b o, s.heap.get? b = some o → h'.get? b = some o) → EP X pins σ Q (Value.str d.shown t) { s with heap := h', toks := tk } := fun h' t tk hk =>
    ⟨.str d.shown, H, I.kept (h' := h') (t' := tk) hk, ⟨_, rfl⟩, q⟩
  rcases dp_plain hd with ⟨rfl, rfl⟩ | ⟨b, rfl, rfl⟩ | ⟨i, rfl, rfl⟩ | ⟨x, rfl, rfl⟩ | ⟨a, rfl⟩
  · cases rx
    have e : PyData.shown .none = ("None" : Str) := PyData.shown_none
    refine P.repr_of_none ?_
    rw [← e]; exact fin _ _ _ fun _ _ h => h
  · cases rx
    have e : PyData.shown (.bool b) = (if b then "True" else "False" : Str) := PyData.shown_bool b
    refine P.repr_of_bool ?_
    have := fin s.heap s.toks (s.toks + 1) fun _ _ h => h
    rw [e] at this
    cases b <;> exact this
  · obtain ⟨t, rfl⟩ := rx
    have e : PyData.shown (.int i) = ((toString i : String) : Str) := PyData.shown_int i
    refine P.repr_of_int (by simpa only [PyData.showable, decide_eq_true_eq] using hs) ?_
    rw [← e]; exact fin _ _ _ fun _ _ h => h
  · obtain ⟨t, rfl⟩ := rx
    have e : PyData.shown (.str x) = reprText x := PyData.shown_str x
    rw [e] at hz
    refine P.repr_of_str ?_ hz
    rw [← e]; exact fin _ _ _ fun _ _ h => h
  · obtain ⟨as, hr⟩ := Dp.reads I d _ u hd rx
    cases rx
    exact repr_of_reads' hr hs (fun z => by rw [hn] at z; cases z) hG (by omega) (fun _ _ e => e) (fun h' t tk hk => fin h' t tk hk) hz
theorem cd_repr {K : PySem.W.Frag} : CallD K (rRepr K) dRepr := by
  intro F H xs cs res Q s hc e
  unfold dRepr at e
  split at e
  · rename_i d
    split at e
    · rename_i h
      cases e
      obtain ⟨v, rfl, hv⟩ := hc.one
      have h0 := hv
      obtain ⟨n, hn, h1, h2, h3⟩ := lev_any h
      refine ⟨fun i q => (nomatch q), fun q => ⟨v, d.py, rfl, (PVal.dp s h1 hv).1, h2, h3, Nat.le_trans (depth_py n d h1) hn, ?_, q.1 _ ?_⟩⟩
      · have := okS_len (lev_okS h)
        unfold txtR at this
        rw [Array.length_toList] at this
        rw [sizeLine_eq]; exact this
      · unfold R
        refine ⟨?_, lev_okS h⟩
        unfold txtR
        simp
    · cases e
  · cases e
theorem bt_repr : bootBuiltins "repr" = some (.builtin "repr") := by decide +kernel
end PV
end

section
set_option maxRecDepth 100000
namespace PV
open PySem PySem.Spec PyProof.Rows L2
variable [CodeTabs]

/-! ### the law's end, for a law that calls repr -/
section
variable {P : Program} {w : World} {K : PySem.W.Frag} {mg mb : Str → Option Value} {CX : CXT} {k : Nat} {fa a : Addr} {fd : FuncData} {x : Str} {sp : Sp} {s₁ : Shared} {vs : List Value} {ns : List Int}
abbrev EndG (P : Program) (w : World) (fa a : Addr) (s : Shared) : Prop :=
  codeAny (model P w) callerA (.call (.ref fa) ⟨[.ref a], []⟩) (fun r z => r = .ok (.ret (.bool true)) ∧ OldK s.heap z.heap ∧ z.os = s.os ∧ AllBare z.gens) s
theorem callG_at {H : Hp} (KX : K.In s₁.heap) (hns : s₁.heap.Ns mainGlobals mg) (hb : s₁.heap.Ns builtinsNs mb) (hbb : ∀ x : Str, x ≠ "__name__" → mb x = bootBuiltins x)
    (hlim : s₁.heap.NoLimit) (hg : s₁.gens = #[]) (ha : s₁.heap.get? a = some { cls := .type "list", data := .seq vs.toArray }) (hr : Room k callerA)
    (F : ∀ base : Heap, K.In base → base.Ns mainGlobals mg → FnG P w K mg base CX k fa fd [x] sp)
    (hbind : ∀ (s : Shared) (u : Value), BindsTo s fd ⟨[u], []⟩ [(x, u)])
    (hCX : ∀ H e s', CX [] H s₁ (fun _ _ _ => False) e s' → False)
    (hO : Only H) (hS : sp [.ref a] H (fun v _ => v = .bl true) fun _ _ _ => False) (hok : HOk P w H s₁.heap)
    (off : ∀ b, b ≠ a → H b = none) (own : ∀ o, K.lookup a = some o → H a = none) : EndG P w fa a s₁ := by
  have seen : ∀ {b : Addr} {o : Obj}, H b = none → s₁.heap.get? b = some o → (hidT s₁.heap H).get? b = some o := fun n e => hidT_get e n
  have dct : ∀ {b : Addr} {m : Str → Option Value}, s₁.heap.Ns b m → (hidT s₁.heap H).Ns b m := by
    intro b m h
    obtain ⟨o, es, ep, e, d, r⟩ := h
    refine ⟨o, es, ep, seen (off b ?_) e, d, r⟩
    intro z
    rw [z, ha] at e
    cases e
    cases d
  have kin : K.In (hidT s₁.heap H) := by
    intro b o e
    refine seen ?_ (KX b o e)
    by_cases z : b = a
    · subst z; exact own o e
    · exact off b z
  obtain ⟨ml, hl1, hl2⟩ := hlim
  have env : Env0 P w K mg (hidT s₁.heap H) callerA [] s₁ H :=
    { frames := rfl
      mod := ⟨kin, dct hns, ⟨mb, dct hb, hbb⟩, ⟨ml, dct hl1, hl2⟩⟩
      bs := fun b o e => of_hidT e
      bsz := by rw [hidT_size]; exact Nat.le_refl _
      funs := trivial
      frf := fun b h => by cases h
      hok := hok
      bare := .of_eq hg }
  have run := (F _ kin (dct hns)).run (A := callerA) (vs := [.ref a]) (Q := fun v _ => v = .bl true) (E := fun _ _ _ => False) rfl hr env (hbind s₁ (.ref a)) (.cons rfl .nil) hS
  refine codeAny_mono run ?_
  rintro (er | fl) z h
  · exact (hCX H er z h).elim
  · cases fl with
    | ret u =>
      obtain ⟨v, H2, ho, hbr, un, hok2, rv, rfl⟩ := h
      cases rv
      refine ⟨rfl, OldK.of_keep ?_, ho, hbr⟩
      intro b o e
      rcases hO b with n | ⟨ob, xs, n⟩
      · exact un.keep b o e n (fun z => by cases z) (fun z => by cases z)
      · have e1 := (hok b _ n).1
        have e2 := (hok2 b _ (un.frzs b ob _ n)).1
        rw [e] at e1
        cases e1
        exact e2
    | _ => exact h.elim
theorem law_callG (KX : K.In s₁.heap) (hns : s₁.heap.Ns mainGlobals mg) (hb : s₁.heap.Ns builtinsNs mb) (hbb : ∀ x : Str, x ≠ "__name__" → mb x = bootBuiltins x)
    (hlim : s₁.heap.NoLimit) (hg : s₁.gens = #[]) (ha : s₁.heap.get? a = some { cls := .type "list", data := .seq vs.toArray }) (hi : IntsAre vs ns) (hl : ns.length ≤ sizeLine) (hr : Room k callerA)
    (F : ∀ base : Heap, K.In base → base.Ns mainGlobals mg → FnG P w K mg base CX k fa fd [x] sp)
    (hbind : ∀ (s : Shared) (u : Value), BindsTo s fd ⟨[u], []⟩ [(x, u)])
    (hsp : ∀ T : Hp, Only T → SqL K T a (ns.map V.int) → sp [.ref a] T (fun v _ => v = .bl true) fun _ _ _ => False) (hCX : ∀ H e s', CX [] H s₁ (fun _ _ _ => False) e s' → False) : EndG P w fa a s₁ := by
  cases hk : K.lookup a with
  | some o =>
    have e := KX a o hk
    rw [ha] at e
    cases e
    have only : Only (fun _ => none : Hp) := fun _ => .inl rfl
    refine callG_at (H := fun _ => none) KX hns hb hbb hlim hg ha hr F hbind hCX only (hsp _ only (.inr ⟨_, vs.toArray, _, hk, rfl, rfl, rfl, ?_, ?_⟩)) ?_ (fun _ _ => rfl) fun _ _ => rfl
    · rw [List.size_toArray, hi.length]; exact hl
    · simpa using vals_ints hi
    · intro b u z
      have : (none : Option HO) = some u := z
      cases this
  | none =>
    let lo : HO := .frz { cls := .type "list", data := .seq vs.toArray } (.lst (ns.map V.int))
    have at0 : (fun b => if b = a then some lo else none : Hp) a = some lo := if_pos rfl
    have only : Only (fun b => if b = a then some lo else none : Hp) := by
      intro b
      by_cases z : b = a
      · exact .inr ⟨_, _, by rw [z]; exact at0⟩
      · exact .inl (if_neg z)
    refine callG_at (H := fun b => if b = a then some lo else none) KX hns hb hbb hlim hg ha hr F hbind hCX only (hsp _ only (.inl (.inr ⟨_, at0⟩))) ?_ (fun b z => if_neg z) (fun o e => ?_)
    · intro b u z
      by_cases q : b = a
      · subst q
        rw [at0] at z
        cases z
        refine ⟨ha, ?_, vs, _, vals_ints hi, ha⟩
        rw [List.length_map]; exact hl
      · have : (none : Option HO) = some u := (if_neg q).symm.trans z
        cases this
    · rw [hk] at e; cases e
end
theorem walk_ofG {l : PySem.W.OpenLaw} {n k : Nat} {q : Program} {loose : List Str} {XP : (Str → Option Value) → Heap → Prop} {YP : World → Heap → Prop} {d : DefRec} {K : Params → PySem.W.Frag} {CX : World → CXT} {sp : World → Sp} {x : Str}
    (hn : l.most = some n) (hsz : n ≤ sizeLine) (hdf : d.params.defaults = []) (hr : Room k callerA) (hY : ∀ (w : World) (h : Heap), YP w h → (K w.params).In h)
    (F : ∀ (w : World) (mg : Str → Option Value) (fa : Addr) (h : Heap), (K w.params).In h → h.Ns mainGlobals mg → mg d.name = some (.ref fa) → ∃ fd : FuncData,
      (∀ (s : Shared) (u : Value), BindsTo s fd ⟨[u], []⟩ [(x, u)]) ∧ ∀ base : Heap, (K w.params).In base → base.Ns mainGlobals mg → FnG l.prog w (K w.params) mg base (CX w) k fa fd [x] (sp w))
    (hsp : ∀ (w : World) (T : Hp) (a : Addr) (zs : List Int), zs.length ≤ n → (∀ z ∈ zs, Builtin.Int.intBits z ≤ 1048576) → Only T → SqL (K w.params) T a (zs.map V.int) → sp w [.ref a] T (fun v _ => v = .bl true) fun _ _ _ => False)
    (hCX : ∀ (w : World) (H : Hp) (s : Shared) (e : Value) (s' : Shared), CX w [] H s (fun _ _ _ => False) e s' → False) : PySem.W.WalkO q loose XP YP l.row.toRowW d [] (fun f vs => PySem.call f vs) := by
  refine Att.attach_callB hn hdf ?_
  intro w z s₁ mg mb fa o pm cd doc a vs ns G Y ho hd hcd hmg hobj hints hlen hbits hg
  obtain ⟨fd, hb, hF⟩ := F w mg fa _ (hY w _ Y) G.T.g hmg
  exact law_callG (hY w _ Y) G.T.g G.T.b G.T.builtins G.T.nolimit hg hobj hints (Nat.le_trans hlen hsz) hr hF hb (fun H hO hS => hsp w H a ns hlen hbits hO hS) (fun H e z => hCX w H s₁ e z)
end PV
end

section
set_option maxRecDepth 100000
namespace PV
open PySem PySem.Spec PyProof.Rows L2
variable [CodeTabs]

/-! ### comprehensions of two fors -/
theorem wipe_sub {vs vs1 : List Nat} (h : ∀ i ∈ vs1, i ∈ vs) (σ : St) : L2.wipe (L2.wipe σ vs1) vs = L2.wipe σ vs := by
  induction vs1 with
  | nil => rfl
  | cons v vs1 ih =>
    have hv := h v List.mem_cons_self
    rw [← ih fun i hi => h i (List.mem_cons_of_mem _ hi)]
    show L2.wipe ((L2.wipe σ vs1).set v none) vs = _
    generalize L2.wipe σ vs1 = τ
    have g : ∀ us : List Nat, ∀ j, j ∈ us → j ∈ us := fun _ _ h => h
    have ind : ∀ us : List Nat, (v ∈ us → L2.wipe (τ.set v none) us = L2.wipe τ us) ∧ (v ∉ us → L2.wipe (τ.set v none) us = (L2.wipe τ us).set v none) := by
      intro us
      induction us with
      | nil => exact ⟨fun h => (nomatch h), fun _ => rfl⟩
      | cons u us ih =>
        refine ⟨fun hm => ?_, fun hm => ?_⟩
        · show (L2.wipe (τ.set v none) us).set u none = (L2.wipe τ us).set u none
          by_cases e : v ∈ us
          · rw [ih.1 e]
          · rw [ih.2 e]
            rcases List.mem_cons.mp hm with rfl | q
            · rw [List.set_set]
            · exact absurd q e
        · simp only [List.mem_cons, not_or] at hm
          show (L2.wipe (τ.set v none) us).set u none = ((L2.wipe τ us).set u none).set v none
          rw [ih.2 hm.2, List.set_comm _ _ hm.1]
    exact (ind vs).1 hv
theorem wipeE_sub {vs vs1 : List Nat} (h : ∀ i ∈ vs1, i ∈ vs) (env : Env) : wipeE vs (wipeE vs1 env) = wipeE vs env := by
  induction vs1 with
  | nil => rfl
  | cons v vs1 ih =>
    have hv := h v List.mem_cons_self
    rw [← ih fun i hi => h i (List.mem_cons_of_mem _ hi)]
    show wipeE vs ((wipeE vs1 env).set v .un) = _
    generalize wipeE vs1 env = τ
    have ind : ∀ us : List Nat, (v ∈ us → wipeE us (τ.set v .un) = wipeE us τ) ∧ (v ∉ us → wipeE us (τ.set v .un) = (wipeE us τ).set v .un) := by
      intro us
      induction us with
      | nil => exact ⟨fun h => (nomatch h), fun _ => rfl⟩
      | cons u us ih =>
        refine ⟨fun hm => ?_, fun hm => ?_⟩
        · show (wipeE us (τ.set v .un)).set u .un = (wipeE us τ).set u .un
          by_cases e : v ∈ us
          · rw [ih.1 e]
          · rw [ih.2 e]
            rcases List.mem_cons.mp hm with rfl | q
            · rw [List.set_set]
            · exact absurd q e
        · simp only [List.mem_cons, not_or] at hm
          show (wipeE us (τ.set v .un)).set u .un = ((wipeE us τ).set u .un).set v .un
          rw [ih.2 hm.2, List.set_comm _ _ hm.1]
    exact (ind vs).1 hv
section
variable {K : PySem.W.Frag} {φ : Act} {tg : Tg} {t : T} {elt : E} {vs : List Nat} {σ : St}
/-- the state of a comprehension's list -/
def LcSt (K : PySem.W.Frag) (φ : Act) (F1 : Hp) (D : Addr) (vs : List Nat) (τ : St) (acc : List PV.D) (env : Env) (H : Hp) : Prop :=
  ∃ F2 ac, Same F1 F2 ∧ Rel K φ F2 (wipeE vs env) τ H ∧ H D = some (.lst ac) ∧ RL K F2 acc ac ∧ F2 D = none ∧ Far (wipeE vs env) τ D ∧ NoTre K φ F2 H (wipeE vs env) τ D
theorem lc_inner {Γ : Hp → Option Ea → Prop} (hφ : Γ φ.F φ.ea) (hv : ∀ i ∈ tg.names, i ∈ vs) {F1 : Hp} {D : Addr} {J : It} {ds : List PV.D} {xs : List PV.D} {envN : Env} {Fin : Hp → Prop} (w : Walks K F1 J ds) (hn : φ.H D = none) (hf : φ.F D = none) (hio : D ∉ φ.io) (hx : xs.length ≤ 16777216)
    {acc0 : List PV.D} {env0 : Env} {H0 : Hp} (h0 : LcSt K φ F1 D vs (L2.wipe σ vs) acc0 env0 H0) (e0 : lcL tg t elt vs ds acc0 env0 = some (xs, envN))
    (hfin : ∀ H, LcSt K φ F1 D vs (L2.wipe σ vs) xs envN H → Fin H) :
    ∃ W1 : Nat → Nat → Hp → Prop, (∃ m, W1 0 m H0) ∧ ∀ j k H, W1 j k H → (J.stop j H ∧ Fin H) ∨ (J.go j H ∧ ∃ Nx1 : Hp → Prop, (∀ H', Nx1 H' → ∃ k', k' < k ∧ W1 (j + 1) k' H') ∧ ∀ x H', J.yld j H x H' → (∃ φ : Act, Γ φ.F φ.ea ∧ rG K φ tg x (L2.wipe σ vs) H' fun σ3 H5 => L2.wipe σ3 vs = L2.wipe σ vs ∧ (∃ φ : Act, Γ φ.F φ.ea ∧ rT K φ t σ3 H5 fun b H6 =>
        if b = true then (∃ φ : Act, Γ φ.F φ.ea ∧ rE K φ elt σ3 H6 fun y H7 => ∃ acc, H7 D = some (.lst acc) ∧ acc.length < sizeLine ∧ Nx1 (upd H7 D (.lst (acc ++ [y])))) else Nx1 H6))) := by
  refine ⟨fun i m H => m = ds.length - i ∧ i ≤ ds.length ∧ ∃ acc env, LcSt K φ F1 D vs (L2.wipe σ vs) acc env H ∧ lcL tg t elt vs (ds.drop i) acc env = some (xs, envN), ⟨ds.length, by simp, Nat.zero_le _, acc0, env0, h0, by simpa using e0⟩, ?_⟩
  rintro i m H2 ⟨rfl, hi, accd, env2, ⟨F2, acc, s2, r2, hD2, ha, hF2, far2, nt2⟩, e2⟩
  by_cases hlt : i < ds.length
  · refine .inr ⟨w.go i H2 (s2.trans r2.sub) hlt, fun H' => ∃ acc env, LcSt K φ F1 D vs (L2.wipe σ vs) acc env H' ∧ lcL tg t elt vs (ds.drop (i + 1)) acc env = some (xs, envN),
      fun H' hN => ⟨ds.length - (i + 1), by omega, rfl, hlt, hN⟩, fun x H' y => ?_⟩
    have r2h := r2.hide hD2 hF2 hn far2 nt2
    obtain ⟨d, F3, ed, s3, r3, h3, sH⟩ := (w.mono s2).item r2h y hlt
    rw [drop_get ed] at e2
    unfold lcL at e2
    split at e2
    · cases e2
    · rename_i env3 ep
      refine ⟨φ.hide D (.lst acc), hφ, F3, wipeE vs env2, d, env3, r3, h3, ep, fun σ3 w3 r4 => ⟨(w3 vs hv).trans (wipe_wipe _ _), ?_⟩⟩
      have back : ∀ {F5 : Hp} {env5 : Env} {H5 : Hp} {acd : List PV.D} {ac : List V}, Same F3 F5 → Rel K (φ.hide D (.lst acc)) F5 env5 σ3 H5 → (H5 D = some (.lst acc) → RL K F5 acd ac) → lcL tg t elt vs (ds.drop (i + 1)) acd env5 = some (xs, envN) →
          ∃ acc env, LcSt K φ F1 D vs (L2.wipe σ vs) acc env (upd H5 D (.lst ac)) ∧ lcL tg t elt vs (ds.drop (i + 1)) acc env = some (xs, envN) := by
        intro F5 env5 H5 acd ac s5 r5 hac e5
        obtain ⟨r6, hD6, hF6, far6, nt6⟩ := r5.unhide hn hf hio
        have ha6 := hac hD6
        have r7 := (r6.turn (ho' := .lst ac) hD6 hF6 hn far6 nt6).wipe vs
        have n7 := NoTre.wipe (r6.turn (ho' := .lst ac) hD6 hF6 hn far6 nt6) (NoTre.turn r6 nt6 nt6) vs
        have ew : L2.wipe σ3 vs = L2.wipe σ vs := (w3 vs hv).trans (wipe_wipe _ _)
        rw [ew] at r7 n7
        refine ⟨acd, env5, ⟨F5, ac, s2.trans (s3.trans s5), r7, upd_same, ha6, hF6, fun j s ej hs q => ?_, n7⟩, e5⟩
        rcases wipeE_get ej with rfl | ⟨hj, ej⟩
        · cases hs
        · rw [← ew, L2.wipe_out hj] at q
          exact far6 j s ej hs q
      split at e2
      · cases e2
      · rename_i env4 et
        refine ⟨φ.hide D (.lst acc), hφ, F3, env3, _, _, r4, et, fun F5 H5 s5 r5 => ?_⟩
        have b := back (acd := accd) (ac := acc) s5 r5 (fun _ => RL.mono (s3.trans s5) _ _ ha) e2
        have hD5 : H5 D = some (.lst acc) := (r5.unhide hn hf hio).2.1
        have eu : upd H5 D (.lst acc) = H5 := by
          funext b; unfold upd; split
          · rename_i z; rw [z, hD5]
          · rfl
        rw [eu] at b
        exact iteF b
      · rename_i env4 et
        refine ⟨φ.hide D (.lst acc), hφ, F3, env3, _, _, r4, et, fun F5 H5 s5 r5 => ?_⟩
        refine iteT ?_
        split at e2
        · cases e2
        · rename_i rv env5 ee
          refine ⟨φ.hide D (.lst acc), hφ, F5, env4, rv, env5, r5, ee, fun F6 H6 v s6 r6 h6 => ?_⟩
          split at e2
          · cases e2
          · rename_i xd env6 ef
            obtain ⟨F7, s7, r7, h7⟩ := r6.freeze h6 ef
            have hD7 : H6 D = some (.lst acc) := (r7.unhide hn hf hio).2.1
            have sz : (sizeLine : Nat) = 16777216 := sizeLine_eq
            have hl := lcL_len e2
            have hl2 := RL.length _ _ ha
            refine ⟨acc, hD7, by simp at hl; omega, ?_⟩
            exact back (acd := accd ++ [xd]) (ac := acc ++ [v]) (s5.trans (s6.trans s7)) r7 (fun _ => RL.append (RL.mono (s3.trans (s5.trans (s6.trans s7))) _ _ ha) (RL.cons h7 RL.nil)) e2
  · have ei : i = ds.length := by omega
    subst ei
    rw [List.drop_length] at e2
    unfold lcL at e2
    cases e2
    exact .inl ⟨w.stop _ H2 (s2.trans r2.sub) (Nat.le_refl _), hfin H2 ⟨F2, acc, s2, r2, hD2, ha, hF2, far2, nt2⟩⟩
end
section
variable {K : PySem.W.Frag} {φ : Act} {it it1 : I} {tg tg1 : Tg} {t t1 : T} {elt : E} {vs vs1 : List Nat} {σ : St} {H : Hp} {Q : VK}
theorem rE_lc2 {Γ : Hp → Option Ea → Prop} (hφ : Γ φ.F φ.ea) (hv : ∀ i ∈ tg.names, i ∈ vs) (hv1 : ∀ i ∈ tg1.names, i ∈ vs1) (hvv : ∀ i ∈ vs1, i ∈ vs) (h : rE K φ (eLc2 it tg t it1 tg1 t1 elt vs vs1) σ H Q) :
    tLc2 (rI K φ it) (fun v σ H Q => ∃ φ : Act, Γ φ.F φ.ea ∧ rG K φ tg v σ H Q) (fun σ H Q => ∃ φ : Act, Γ φ.F φ.ea ∧ rT K φ t σ H Q) (fun σ H R => ∃ φ : Act, Γ φ.F φ.ea ∧ rI K φ it1 σ H R) (fun v σ H Q => ∃ φ : Act, Γ φ.F φ.ea ∧ rG K φ tg1 v σ H Q) (fun σ H Q => ∃ φ : Act, Γ φ.F φ.ea ∧ rT K φ t1 σ H Q) (fun σ H Q => ∃ φ : Act, Γ φ.F φ.ea ∧ rE K φ elt σ H Q) vs vs1 σ H Q := by
  obtain ⟨F, env, q, env', r0, e, k⟩ := h
  unfold eLc2 at e
  split at e
  · cases e
  · rename_i ds env1 ei
    refine ⟨F, env, ds, env1, r0, ei, fun F1 H1 J s1 r1 w D hD => ?_⟩
    split at e
    · rename_i hw
      split at e
      · cases e
      · rename_i xs envN el
        split at e
        · rename_i hx
          cases e
          have hF1 : F1 D = none := Same.free r1.sub hD
          have hn : φ.H D = none := r1.actNone hD
          have hf : φ.F D = none := Same.free r1.old hF1
          have hio : D ∉ φ.io := fun q => by obtain ⟨o, z⟩ := r1.ioH D q; rw [hD] at z; cases z
          have rD := (r1.laid (ho := .lst []) hD).wipe vs
          refine ⟨fun i m H => m = ds.length - i ∧ i ≤ ds.length ∧ ∃ acc env, LcSt K φ F1 D vs (L2.wipe σ vs) acc env H ∧ lcO tg t it1 tg1 t1 elt vs vs1 (ds.drop i) acc env = some (xs, envN),
            ⟨ds.length, by simp, Nat.zero_le _, [], env1, ⟨F1, [], .refl _, rD, upd_same, RL.nil, hF1, fun i s e hs q => ?_, NoTre.wipe (r1.laid hD) (r1.laidT hD (Rel.farT hD)) vs⟩, by simpa using el⟩, ?_⟩
          · rcases wipeE_get e with rfl | ⟨hi, e⟩
            · cases hs
            · rw [L2.wipe_out hi] at q
              exact r1.far hD i s e hs q
          rintro i m H2 ⟨rfl, hi, accd, env2, ⟨F2, acc, s2, r2, hD2, ha, hF2, far2, nt2⟩, e2⟩
          by_cases hlt : i < ds.length
          · refine .inr ⟨w.go i H2 (s2.trans r2.sub) hlt, fun H' => ∃ acc env, LcSt K φ F1 D vs (L2.wipe σ vs) acc env H' ∧ lcO tg t it1 tg1 t1 elt vs vs1 (ds.drop (i + 1)) acc env = some (xs, envN),
              fun H' hN => ⟨ds.length - (i + 1), by omega, rfl, hlt, hN⟩, fun x H' y => ?_⟩
            have r2h := r2.hide hD2 hF2 hn far2 nt2
            obtain ⟨d, F3, ed, s3, r3, h3, sH⟩ := (w.mono s2).item r2h y hlt
            rw [drop_get ed] at e2
            unfold lcO at e2
            split at e2
            · cases e2
            · rename_i env3 ep
              refine ⟨φ.hide D (.lst acc), hφ, F3, wipeE vs env2, d, env3, r3, h3, ep, fun σ3 w3 r4 => ⟨(w3 vs hv).trans (wipe_wipe _ _), ?_⟩⟩
              have ew : L2.wipe σ3 vs = L2.wipe σ vs := (w3 vs hv).trans (wipe_wipe _ _)
              split at e2
              · cases e2
              · rename_i env4 et
                refine ⟨φ.hide D (.lst acc), hφ, F3, env3, _, _, r4, et, fun F5 H5 s5 r5 => iteF ?_⟩
                obtain ⟨r6, hD6, hF6, far6, nt6⟩ := r5.unhide hn hf hio
                have r7 := r6.wipe vs
                have n7 := NoTre.wipe r6 nt6 vs
                rw [ew] at r7 n7
                refine ⟨accd, env4, ⟨F5, acc, s2.trans (s3.trans s5), r7, hD6, RL.mono (s3.trans s5) _ _ ha, hF6, fun j s ej hs q => ?_, n7⟩, e2⟩
                rcases wipeE_get ej with rfl | ⟨hj, ej⟩
                · cases hs
                · rw [← ew, L2.wipe_out hj] at q
                  exact far6 j s ej hs q
              · rename_i env4 et
                refine ⟨φ.hide D (.lst acc), hφ, F3, env3, _, _, r4, et, fun F5 H5 s5 r5 => iteT ?_⟩
                split at e2
                · cases e2
                · rename_i ds1 env5 ei1
                  split at e2
                  · cases e2
                  · rename_i acc' env6 el1
                    refine ⟨φ.hide D (.lst acc), hφ, F5, env4, ds1, env5, r5, ei1, fun F6 H6 J1 s6 r6 w1 => ?_⟩
                    obtain ⟨r7, hD7, hF7, far7, nt7⟩ := r6.unhide hn hf hio
                    have r8 := r7.wipe vs1
                    refine lc_inner hφ hv1 w1 hn hf hio (Nat.le_trans (lcO_len e2) hx) (acc0 := accd) (env0 := env5) ⟨F6, acc, .refl _, r8, hD7, RL.mono (s3.trans (s5.trans s6)) _ _ ha, hF7, fun j s ej hs q => ?_, NoTre.wipe r7 nt7 vs1⟩ el1 fun H9 st => ?_
                    · rcases wipeE_get ej with rfl | ⟨hj, ej⟩
                      · cases hs
                      · rw [L2.wipe_out hj] at q
                        exact far7 j s ej hs q
                    · obtain ⟨F9, ac, s9, r9, hD9, ha9, hF9, far9, nt9⟩ := st
                      have r10 := r9.wipe vs
                      have n10 := NoTre.wipe r9 nt9 vs
                      rw [wipe_sub hvv, wipeE_sub hvv, ew] at r10 n10
                      refine ⟨acc', env6, ⟨F9, ac, s2.trans (s3.trans (s5.trans (s6.trans s9))), r10, hD9, ha9, hF9, fun j s ej hs q => ?_, n10⟩, e2⟩
                      rw [← wipeE_sub hvv] at ej
                      rcases wipeE_get ej with rfl | ⟨hj, ej⟩
                      · cases hs
                      · rw [← ew, ← wipe_sub hvv, L2.wipe_out hj] at q
                        exact far9 j s ej hs q
          · have ei : i = ds.length := by omega
            subst ei
            rw [List.drop_length] at e2
            unfold lcO at e2
            cases e2
            have r9 := r1.back s2 hw r2
            refine .inl ⟨w.stop _ H2 (s2.trans r2.sub) (Nat.le_refl _), k F2 H2 _ (s1.trans s2) r9 ⟨D, .lst acc, rfl, hD2, ha, hF2, hn, fun j s ej hs q => ?_, NoTre.back hw r2 nt2⟩⟩
            rcases backE_get ej with ⟨hj, rfl⟩ | ⟨hj, ej⟩
            · rcases wipeable_at hw hj with z | ⟨d, z⟩
              · rw [List.getD_eq_getElem?_getD, z] at hs; cases hs
              · rw [List.getD_eq_getElem?_getD, z] at hs; cases hs
            · exact far2 j s (by rw [wipeE_out hj]; exact ej) hs (by rw [L2.wipe_out hj]; exact q)
        · cases e
    · cases e
end
section
variable {X : Cx} {Γ : Hp → Option Ea → Prop} {cm : CM} {W : WX} {elt tg iter tg1 iter1 : Expr} {ifs ifs1 : List Expr} {scope : Scope} {pos spos : Pos} {it it1 : I} {g g1 : Tg} {t t1 : T} {f : E}
theorem IX.any (h : IX X Γ tg iter it) : PI X tg iter (fun σ H R => ∃ φ : Act, Γ φ.F φ.ea ∧ rI X.K φ it σ H R) := ⟨fun pins s σ H Q I ⟨φ, hφ, q⟩ => (h.at' φ hφ).run pins s σ H Q I q⟩
theorem ex_lc2 (own : List (Str × Nat)) (vs1 : List Nat) (hc : X.calm = true) (hN : X.N.Nodup) (hi : IX X Γ tg iter it) (ok : BlkOk X.N X.env.scope scope own) (hvv : ∀ i ∈ vs1, i ∈ own.map (·.2))
    (hg : ∀ (s : Shared) (H : Hp) (C : Addr) (cl : List (Str × Addr)) (fp : List Addr), GX (X.blk s H scope (compEnvC scope cl C X.env) fp) Γ tg g) (ht : ∀ (s : Shared) (H : Hp) (C : Addr) (cl : List (Str × Addr)) (fp : List Addr), TsX (X.blk s H scope (compEnvC scope cl C X.env) fp) Γ ifs t)
    (hi1 : ∀ (s : Shared) (H : Hp) (C : Addr) (cl : List (Str × Addr)) (fp : List Addr), IX (X.blk s H scope (compEnvC scope cl C X.env) fp) Γ tg1 iter1 it1)
    (hg1 : ∀ (s : Shared) (H : Hp) (C : Addr) (cl : List (Str × Addr)) (fp : List Addr), GX (X.blk s H scope (compEnvC scope cl C X.env) fp) Γ tg1 g1) (ht1 : ∀ (s : Shared) (H : Hp) (C : Addr) (cl : List (Str × Addr)) (fp : List Addr), TsX (X.blk s H scope (compEnvC scope cl C X.env) fp) Γ ifs1 t1)
    (he : ∀ (s : Shared) (H : Hp) (C : Addr) (cl : List (Str × Addr)) (fp : List Addr), EX (X.blk s H scope (compEnvC scope cl C X.env) fp) Γ elt f) (hv : ∀ i ∈ g.names, i ∈ own.map (·.2)) (hv1 : ∀ i ∈ g1.names, i ∈ vs1) (hs : ∀ x, foldedSetIterable iter X.env x = pure x := by intro _; rfl) (hs1 : ∀ env x, foldedSetIterable iter1 env x = pure x := by intro _ _; rfl) :
    EX X Γ (.ListComp elt [⟨tg, iter, ifs, 0⟩, ⟨tg1, iter1, ifs1, 0⟩] scope pos) (eLc2 it g t it1 g1 t1 f (own.map (·.2)) vs1) :=
  ⟨fun φ hφ => PE.weak (pe_lc2 hc hN (hi.at' φ hφ) ok hvv (fun s H C cl fp => (hg s H C cl fp).any) (fun s H C cl fp => (ht s H C cl fp).any) (fun s H C cl fp => (hi1 s H C cl fp).any) (fun s H C cl fp => (hg1 s H C cl fp).any) (fun s H C cl fp => (ht1 s H C cl fp).any) (fun s H C cl fp => (he s H C cl fp).any) hs hs1) fun σ H Q h => rE_lc2 hφ hv hv1 hvv h⟩
theorem zsetLc2 (own : List (Str × Nat)) (vs1 : List Nat) (i : Nat) {py : Pos} {y : Str} (hc : X.calm = true) (hN : X.N.Nodup) (hk : X.env.scope.kind = .function)
    (hi : IX X Γ tg iter it) (ok : BlkOk X.N X.env.scope scope own) (hvv : ∀ i ∈ vs1, i ∈ own.map (·.2))
    (hg : ∀ (s : Shared) (H : Hp) (C : Addr) (cl : List (Str × Addr)) (fp : List Addr), GX (X.blk s H scope (compEnvC scope cl C X.env) fp) Γ tg g) (ht : ∀ (s : Shared) (H : Hp) (C : Addr) (cl : List (Str × Addr)) (fp : List Addr), TsX (X.blk s H scope (compEnvC scope cl C X.env) fp) Γ ifs t)
    (hi1 : ∀ (s : Shared) (H : Hp) (C : Addr) (cl : List (Str × Addr)) (fp : List Addr), IX (X.blk s H scope (compEnvC scope cl C X.env) fp) Γ tg1 iter1 it1)
    (hg1 : ∀ (s : Shared) (H : Hp) (C : Addr) (cl : List (Str × Addr)) (fp : List Addr), GX (X.blk s H scope (compEnvC scope cl C X.env) fp) Γ tg1 g1) (ht1 : ∀ (s : Shared) (H : Hp) (C : Addr) (cl : List (Str × Addr)) (fp : List Addr), TsX (X.blk s H scope (compEnvC scope cl C X.env) fp) Γ ifs1 t1)
    (he : ∀ (s : Shared) (H : Hp) (C : Addr) (cl : List (Str × Addr)) (fp : List Addr), EX (X.blk s H scope (compEnvC scope cl C X.env) fp) Γ elt f) (hv : ∀ i ∈ g.names, i ∈ own.map (·.2)) (hv1 : ∀ i ∈ g1.names, i ∈ vs1)
    (hy : X.N[i]? = some y := by rfl) (hyl : X.env.scope.names.lookup y = some .local := by rfl) (hl : (py.line == pos.line) = true := by rfl) (ha : (scope.names.any fun (n, k) => n == y && (k == .local || k == .cell)) = false := by decide +kernel) (hs : ∀ x, foldedSetIterable iter X.env x = pure x := by intro _; rfl) (hs1 : ∀ env x, foldedSetIterable iter1 env x = pure x := by intro _ _; rfl) :
    SX X Γ cm W (.Assign [.Name y py] (.ListComp elt [⟨tg, iter, ifs, 0⟩, ⟨tg1, iter1, ifs1, 0⟩] scope pos) spos) (sSet i (eLc2 it g t it1 g1 t1 f (own.map (·.2)) vs1)) :=
  ⟨fun φ hφ => PS.weak (ps_setLc2 hc hN hy hyl (sw_true hk hyl hl ha) (hi.at' φ hφ) ok hvv (fun s H C cl fp => (hg s H C cl fp).any) (fun s H C cl fp => (ht s H C cl fp).any) (fun s H C cl fp => (hi1 s H C cl fp).any) (fun s H C cl fp => (hg1 s H C cl fp).any) (fun s H C cl fp => (ht1 s H C cl fp).any) (fun s H C cl fp => (he s H C cl fp).any) hs hs1) fun D σ H h =>
    rE_lc2 hφ hv hv1 hvv (rS_set h)⟩
end
end PV
end

section
set_option maxRecDepth 100000
namespace PV
open PySem PySem.Spec PyProof.Rows L2
variable [CodeTabs]
/-! ### gcd -/
theorem cd_gcd {K : PySem.W.Frag} : CallD K rGcd dGcd := by
  intro F H xs cs res Q s hc e
  unfold dGcd at e
  split at e
  · cases e
    obtain ⟨v, w, rfl, hv, hw⟩ := hc.two
    exact ⟨fun i q => (nomatch q), fun q => ⟨_, _, by rw [hv.int, hw.int], q.1 _ (by unfold R; rfl)⟩⟩
  · cases e
section
variable {X : Cx} {Γ : Hp → Option Ea → Prop} {a : Expr} {pos : Pos}
theorem ex_Bf {id : String} {x : Str} {p : Pos} {es : List Expr} {g : EL} {r : List V → Hp → VK → Prop} {fo : List D → Option RV} (hc : CallR X (.builtin id) r) (hf : CallD X.K r fo) (hg : Gl X x) (hm : X.mg x = some (.builtin id)) (ha : AX X Γ (a :: es) g) (hdb : (x == ("__debug__" : Str)) = false := by decide)
    (he : starEach (a :: es) X.env = (false, eval a X.env) :: starEach es X.env := by rfl) (hpl : (backTo pos (starEach es X.env)).any (·.1) = false := by rfl) : EX X Γ (.Call (.Name x p) (a :: es) [] pos) (eB fo g) :=
  ⟨fun φ hφ => PE.weak (pe_callBfun hc hg hm (ha.at' φ hφ) hdb he hpl) fun _ _ _ h => rE_B hf h⟩
end
theorem hu65S {k : Nat} {A : Around} {h : Option Value} (r : Room k A) : (A.mark h).units + 65 < cLine := by have q := hu65 r; exact q
theorem hu1S {k : Nat} {A : Around} {h : Option Value} (r : Room k A) : (A.mark h).units + 1 < cLine := by have q := hu1 r; exact q
end PV
end

section
set_option maxRecDepth 100000
namespace PySem
open Sem (wp)
section
variable {prog : Program} {w : World} {K : Type} [DecidableEq K] {knd : HeapKind prog w K} {A : Around} {E : Value → Shared → Prop} {s : Shared} {env : Env}
theorem wpAny_Dict_walkH {keys : List (Option Expr)} {values : List Expr} {pos : Pos} {Q : Value → Shared → Prop} (hu : knd.room A)
    (hall : keys.all (·.isSome) = true) (hl : keys.length = values.length) (h0 : keys ≠ []) (hlen : keys.length ≤ 15)
    (h : wpAny (model prog w) A (evalPairs (pairTrees keys values env pos)) (fun vs s₁ => ∃ ps, CarriesH knd s₁.heap vs ps ∧ s₁.heap.DictOfH knd s.heap.objs.size [] ∧
      ∀ h' tk, h'.DictOfH knd s.heap.objs.size (storedAllH [] ps) → Heap.SameBut s.heap.objs.size s₁.heap h' → Q (.ref s.heap.objs.size) { s₁ with heap := h', toks := tk }) E
      { s with heap := s.heap.push { cls := .type "dict", data := .dict #[] } }) :
    wpAny (model prog w) A (eval (.Dict keys values pos) env) Q E s := by
  have hn := pairTrees_length keys values env pos hall hl
  have hp0 : pairTrees keys values env pos ≠ [] := by
    intro he
    rw [he] at hn
    exact h0 (List.length_eq_zero_iff.mp hn.symm)
  rw [arm_eval_Dict, zip_pairTrees keys values env pos hall hl, dictDisplay_pairs _ hp0 (by rw [hn]; omega)]
  exact wpAny_bind (wpAny_standAt (wpAny_bind (wpAny_subDictH (knd := knd) (Q := fun d s' => wpAny (model prog w) A (pure (Value.ref d)) Q E s') hu (by rw [hn]; exact hlen)
    (wpAny_mono h (fun vs s₁ h₁ => by obtain ⟨ps, hc, hm, hq⟩ := h₁; exact ⟨ps, hc, hm, fun h' tk a b => wpAny_pure (hq h' tk a b)⟩) fun _ _ e => e))))
end
end PySem
namespace PV
open PySem PySem.Spec PyProof.Rows L2
variable [CodeTabs]
def mergeT (kvs more : List (List Key × V)) : List (List Key × V) := more.foldl (fun acc kv => putK acc kv.1 kv.2) kvs
theorem KT.merge {H : Hp} : ∀ {more : List (List Key × V)} {ps : List (List Key × Addr × Value)} {kvs : List (List Key × V)} {xs : List (List Key × Addr × Value)}, KT H more ps → KT H kvs xs → KT H (mergeT kvs more) (storedAllH xs ps) := by
  intro more ps kvs xs r
  unfold KT at r
  induction r generalizing kvs xs with
  | nil => intro q; exact q
  | @cons p q ps qs h t ih =>
    intro r0
    have e : KT H (putK kvs p.1 p.2) (storedH xs q.1 q.2.1 q.2.2) := by
      have := r0.put p.1 h.2.1 h.2.2
      rw [← h.1]; exact this
    exact ih e
theorem length_mergeT : ∀ (more kvs : List (List Key × V)), (mergeT kvs more).length ≤ kvs.length + more.length
  | [], kvs => by show kvs.length ≤ kvs.length + 0; omega
  | p :: r, kvs => by
    have h1 := length_mergeT r (putK kvs p.1 p.2)
    have h2 := length_putK kvs p.1 p.2
    show (mergeT (putK kvs p.1 p.2) r).length ≤ _
    rw [List.length_cons]; omega
theorem mergeT_new : ∀ (more kvs : List (List Key × V)), ((kvs ++ more).map (·.1)).Nodup → mergeT kvs more = kvs ++ more
  | [], kvs, _ => by simp [mergeT]
  | kv :: more, kvs, h => by
    have hn : valV kvs kv.1 = none := by
      unfold valV
      rw [Option.map_eq_none_iff, List.find?_eq_none]
      intro x hx hq
      simp only [decide_eq_true_eq] at hq
      rw [List.map_append, List.nodup_append] at h
      exact h.2.2 x.1 (List.mem_map.2 ⟨x, hx, rfl⟩) kv.1 (by simp) hq
    show mergeT (putK kvs kv.1 kv.2) more = _
    rw [putK_new kv.2 hn, mergeT_new more (kvs ++ [(kv.1, kv.2)]) (by simpa using h)]
    simp
abbrev PT (H : Hp) : List (V × V) → List (List Key × V) → Prop := Paired fun q kv => ∃ b, q.1 = .ref b ∧ H b = some (.tup (kv.1.map kV)) ∧ q.2 = kv.2
theorem carriesT {P : Program} {w : World} {H : Hp} {h : Heap} (ok : HOk P w H h) : ∀ {ps : List (V × V)} {kvs : List (List Key × V)} {vs : List (Value × Value)}, PT H ps kvs → VV ps vs → ∃ xs, CarriesH (tupleKind (mixKind P w)) h vs xs ∧ KT H kvs xs := by
  intro ps kvs vs r
  unfold PT at r
  induction r generalizing vs with
  | nil => intro q; cases q; exact ⟨[], True.intro, .nil⟩
  | @cons p kv ps kvs hq t ih =>
    intro q
    cases q with
    | @cons _ b _ bs hb ht =>
      obtain ⟨a, e1, e2, e3⟩ := hq
      obtain ⟨xs, c, k⟩ := ih ht
      obtain ⟨b1, b2⟩ := b
      obtain ⟨h1, h2⟩ := hb
      simp only [e1] at h1
      cases (show b1 = Value.ref a from h1)
      simp only [e3] at h2
      exact ⟨(kv.1, a, b2) :: xs, ⟨rfl, rfl, key_of ok e2, c⟩, .cons ⟨rfl, e2, h2⟩ k⟩
def tDispT (trs : List (TE × TE)) : TE := fun σ H Q => ∀ p, H p = none → tPairs trs σ (upd H p (.dT [])) fun ps H2 => H2 p = some (.dT []) ∧ ∃ kvs : List (List Key × V), PT H2 ps kvs ∧ kvs.length ≤ 15 ∧ Q (.ref p) (upd H2 p (.dT (mergeT [] kvs)))
theorem pe_dispT {X : Cx} {pos : Pos} {keys : List (Option Expr)} {values : List Expr} {trs : List (TE × TE)} (hu : X.A.units + 1 < cLine) (h : PPs X pos keys values trs) (hall : keys.all (·.isSome) = true) (hl : keys.length = values.length) (h0 : keys ≠ [])
    (h15 : keys.length ≤ 15) : PE X (.Dict keys values pos) (tDispT trs) := by
  refine ⟨fun pins s σ H Q I q => ?_⟩
  have hn := I.hok.fresh (Nat.le_refl s.heap.objs.size)
  have I1 := I.laid (a := s.heap.objs.size) (o := .dT []) (h' := s.heap.push { cls := .type "dict", data := .dict #[] }) (t' := s.toks) (fun _ _ q => Heap.get?_push_of_some _ q) (Nat.le_refl _) (dt_empty s.heap I.big)
  have hr : (tupleKind (mixKind X.prog X.w)).room X.A := by show X.A.units < cLine; omega
  refine PySem.wpAny_Dict_walkH (knd := tupleKind (mixKind X.prog X.w)) hr hall hl h0 h15 (thn (h.run pins _ σ _ _ I1 (q _ hn)) fun ws s2 ⟨ps, H2, I2, rel, e, kvs, ep, lk, q2⟩ => ?_)
  obtain ⟨xs, c, rk⟩ := carriesT I2.hok ep rel
  obtain ⟨z, hd, vs0, r0, dd⟩ := dt_of I2.hok e
  cases r0
  refine ⟨xs, c, dd, fun h' tk dd' hs => ⟨.ref s.heap.objs.size, _, ?_, rfl, q2⟩⟩
  have hz : (mergeT [] kvs).length ≤ sizeLine := by
    have h1 := length_mergeT kvs []
    rw [List.length_nil] at h1
    rw [sizeLine_eq]; omega
  obtain ⟨o, es, ep', hq, h2, h3, h4, _, h5⟩ := dd'
  refine d_write I2 (by rw [e]; exact True.intro) hs ⟨o, hq⟩ ⟨hz, hd, _, ((KT.merge rk .nil)).keeps fun b ys ec => ?_, o, es, ep', hq, h2, h3, h4, h5⟩
  rw [upd_ne (ne_of ec e (fun z => nomatch z))]
  exact ec
end PV
end

section
set_option maxRecDepth 100000
namespace PV
open PySem PySem.Spec PyProof.Rows L2
variable [CodeTabs]
/-! ### k in d -/
def rInDict : R2 := fun x y H Q => ∃ a o, y = .ref a ∧ DGet H a x o ∧ Q (.bl o.isSome) H
def rNotInDict : R2 := fun x y H Q => ∃ a o, y = .ref a ∧ DGet H a x o ∧ Q (.bl (!o.isSome)) H
theorem op_inDict {X : Cx} (hu : X.A.units + 1 < cLine) : OpR X (compareOp .In) rInDict := by
  intro pins s σ H x y v u Q I rx ry h
  obtain ⟨a, o, rfl, g, q⟩ := h
  cases (show u = Value.ref a from ry)
  exact d_in hu I g rx fun s' I' => ⟨.bl o.isSome, H, I', rfl, q⟩
theorem op_notInDict {X : Cx} (hu : X.A.units + 1 < cLine) : OpR X (compareOp .NotIn) rNotInDict := by
  intro pins s σ H x y v u Q I rx ry h
  obtain ⟨a, o, rfl, g, q⟩ := h
  cases (show u = Value.ref a from ry)
  exact d_notIn hu I g rx fun s' I' => ⟨.bl (!o.isSome), H, I', rfl, q⟩
/-- the key that a datum is -/
theorem keyOf1 {K : PySem.W.Frag} {F : Hp} {d : D} {v : V} (h : isK d = true) (r : R K F d v) : ∃ k : Key, d = kD k ∧ v = kV k := by
  cases d with
  | int i => unfold R at r; exact ⟨.inl i, rfl, r⟩
  | str s => unfold R at r; exact ⟨.inr ⟨s.toArray⟩, by simp [kD], r.1⟩
  | _ => cases h
theorem keyOfL {K : PySem.W.Frag} {F : Hp} : ∀ {ds : List D} {vs : List V}, ds.all isK = true → RL K F ds vs → ∃ k : List Key, ds = k.map kD ∧ vs = k.map kV
  | [], vs, _, r => by unfold RL at r; subst r; exact ⟨[], rfl, rfl⟩
  | d :: ds, vs, h, r => by
    unfold RL at r
    obtain ⟨v, w, rfl, h1, h2⟩ := r
    simp only [List.all_cons, Bool.and_eq_true] at h
    obtain ⟨k, rfl, rfl⟩ := keyOf1 h.1 h1
    obtain ⟨l, rfl, rfl⟩ := keyOfL h.2 h2
    exact ⟨k :: l, rfl, rfl⟩
theorem keq_kD (a b : Key) : keq (kD a) (kD b) = decide (a = b) := by
  cases a with
  | inl i => cases b with
    | inl j =>
      rw [Bool.eq_iff_iff]; simp [keq, kD]
    | inr y => simp [keq, kD]
  | inr x => cases b with
    | inl j => simp [keq, kD]
    | inr y =>
      obtain ⟨x⟩ := x
      obtain ⟨y⟩ := y
      rw [Bool.eq_iff_iff]; simp [keq, kD]
theorem keqL_kD : ∀ a b : List Key, keqL (a.map kD) (b.map kD) = decide (a = b)
  | [], [] => rfl
  | [], _ :: _ => by simp [keqL]
  | _ :: _, [] => by simp [keqL]
  | x :: xs, y :: ys => by
    simp only [List.map_cons, keqL, keq_kD, keqL_kD xs ys]
    rw [Bool.eq_iff_iff]; simp
theorem has_T (k : List Key) (kvs : List (List Key × V)) : (kvs.map (fun p => D.tup (p.1.map kD))).any (keqT (k.map kD)) = (valV kvs k).isSome := by
  rw [← valV_any, List.any_map]
  congr 1
  funext p
  simp only [Function.comp, keqT, keqL_kD]
theorem has_K (k : Key) (kvs : List (Key × V)) : (kvs.map (fun p => kD p.1)).any (fun y => keq y (kD k)) = (valV kvs k).isSome := by
  rw [← valV_any, List.any_map]
  congr 1
  funext p
  simp only [Function.comp, keq_kD]
theorem kD_ne_non (k : Key) : kD k ≠ D.non := by cases k <;> (intro q; cases q)
theorem dicHas_ok {K : PySem.W.Frag} {F H : Hp} {x : V} {a : Addr} {ho : HO} {c : D} {ks ds : List D} {b : Bool} (s : Same F H) (hc : PVal K F H c x) (h1 : H a = some ho) (o : ObjR K F ho (.dic ks ds)) (e : dicHas c ks = some b) : ∃ r, DGet H a x r ∧ r.isSome = b := by
  cases ho with
  | dK kvs =>
    obtain ⟨rfl, o2⟩ := o
    have hnon : isNonL (kvs.map fun p => kD p.1) = false := by
      cases kvs with
      | nil => rfl
      | cons kv t => obtain ⟨k, v⟩ := kv; cases k <;> rfl
    unfold dicHas at e
    split at e
    · split at e
      · rename_i hh; rw [hnon] at hh; cases hh.1
      · cases e
    · split at e
      · rename_i hk
        cases e
        have hs : R K F c x := hc.scal (by intro _ q; subst q; cases hk.2) (by intro _ _ q; subst q; cases hk.2)
        obtain ⟨k, rfl, rfl⟩ := keyOf1 hk.2 hs
        exact ⟨_, DGet.k h1, (has_K k kvs).symm⟩
      · cases e
  | dT kvs =>
    obtain ⟨rfl, o2⟩ := o
    unfold dicHas at e
    split at e
    · split at e
      · rename_i hk
        cases e
        obtain ⟨b, vs, rfl, hb, hr⟩ := hc.tupH s
        obtain ⟨k, rfl, rfl⟩ := keyOfL hk.2 hr
        exact ⟨_, DGet.t h1 hb, (has_T k kvs).symm⟩
      · cases e
    · split at e
      · rename_i hh; cases hh.1
      · cases e
  | _ => exact o.elim
theorem dic_at {K : PySem.W.Frag} {F H : Hp} {y : V} {ks ds : List D} (s : Same F H) (hd : PVal K F H (.dic ks ds) y) : ∃ a ho, y = .ref a ∧ H a = some ho ∧ ObjR K F ho (.dic ks ds) := by
  rcases hd with h | ⟨a, ho, rfl, h1, o⟩
  · unfold R at h
    obtain ⟨a, rfl, h⟩ := h
    rcases h with ⟨kvs, h1, h2, h3⟩ | ⟨kvs, h1, h2, h3⟩
    · exact ⟨a, _, rfl, s _ _ h1, h2, h3⟩
    · exact ⟨a, _, rfl, s _ _ h1, h2, h3⟩
  · exact ⟨a, ho, rfl, h1, o⟩
theorem opd_inX {K : PySem.W.Frag} : OpD K (fun x y H Q => rInDict x y H Q ∨ rInV K x y H Q) dInX := by
  intro F H x y c d res Q s hc hd e
  unfold dInX at e
  split at e
  · rename_i ks ds
    split at e
    · rename_i b eb
      cases e
      refine ⟨fun i q => (nomatch q), fun q => .inl ?_⟩
      obtain ⟨a, ho, rfl, h1, o⟩ := dic_at s hd
      obtain ⟨r, g, rfl⟩ := dicHas_ok s hc h1 o eb
      exact ⟨a, r, rfl, g, q.1 _ (by unfold R; rfl)⟩
    · cases e
  · obtain ⟨p, q⟩ := opd_in F H x y c _ res Q s hc hd e
    exact ⟨p, fun z => .inr (q z)⟩
theorem opd_notInX {K : PySem.W.Frag} {r' : R2} (h0 : OpD K r' dNotIn) : OpD K (fun x y H Q => rNotInDict x y H Q ∨ r' x y H Q) dNotInX := by
  intro F H x y c d res Q s hc hd e
  unfold dNotInX at e
  split at e
  · rename_i ks ds
    split at e
    · rename_i b eb
      cases e
      refine ⟨fun i q => (nomatch q), fun q => .inl ?_⟩
      obtain ⟨a, ho, rfl, h1, o⟩ := dic_at s hd
      obtain ⟨r, g, rfl⟩ := dicHas_ok s hc h1 o eb
      exact ⟨a, r, rfl, g, q.1 _ (by unfold R; rfl)⟩
    · cases e
  · obtain ⟨p, q⟩ := h0 F H x y c _ res Q s hc hd e
    exact ⟨p, fun z => .inr (q z)⟩
theorem op_inX {X : Cx} (hu : X.A.units + 65 < cLine) : OpR X (compareOp .In) (fun x y H Q => rInDict x y H Q ∨ rInV X.K x y H Q) := OpR.or (op_inDict (by omega)) (op_inV hu)
theorem op_notInX {X : Cx} {r' : R2} (hu : X.A.units + 65 < cLine) (h0 : OpR X (compareOp .NotIn) r') : OpR X (compareOp .NotIn) (fun x y H Q => rNotInDict x y H Q ∨ r' x y H Q) := OpR.or (op_notInDict (by omega)) h0

/-! ### a display with keys that are pairs of names -/
def trsN (tab : List (Nat × Nat × Bool)) : List (TE × TE) := tab.map fun e => (tTup (tCons (tVar e.1) (tCons (tVar e.2.1) tNil)), tC (V.bl e.2.2))
structure DTX (X : Cx) (pos : Pos) (keys : List (Option Expr)) (vals : List Expr) (tab : List (Nat × Nat × Bool)) : Prop where
  pps : PPs X pos keys vals (trsN tab)
theorem dtx_nil {X : Cx} {pos : Pos} : DTX X pos [] [] [] := ⟨pps_nil⟩
theorem dtx_cons {X : Cx} {pos p1 p2 p3 p4 : Pos} {x1} {a b : Str} {i j : Nat} {t : Bool} {k : Nat} {keys : List (Option Expr)} {vals : List Expr} {tab : List (Nat × Nat × Bool)} (h : DTX X pos keys vals tab)
    (hNi : X.N[i]? = some a := by rfl) (hNj : X.N[j]? = some b := by rfl)
    (hvi : Vis X.env.scope a := by first | exact Or.inl rfl | exact Or.inr (Or.inl rfl) | exact Or.inr (Or.inr rfl)) (hvj : Vis X.env.scope b := by first | exact Or.inl rfl | exact Or.inr (Or.inl rfl) | exact Or.inr (Or.inr rfl))
    (hda : (a == ("__debug__" : Str)) = false := by decide) (hdb : (b == ("__debug__" : Str)) = false := by decide) (hca : (a == ("__classdict__" : Str)) = false := by decide) (hcb : (b == ("__classdict__" : Str)) = false := by decide) :
    DTX X pos (some (.Tuple [.Name a p1, .Name b p2] x1 p3) :: keys) (.Constant (.bool t) k p4 :: vals) ((i, j, t) :: tab) :=
  ⟨pps_cons (pe_tup (pa_cons (pe_var hNi hvi hda hca) (pa_cons (pe_var hNj hvj hdb hcb) pa_nil))) pe_bl h.pps⟩
theorem Rel.intAt {K : PySem.W.Frag} {φ : Act} {F H : Hp} {env : Env} {σ : L2.St} {i : Nat} {a : Int} (r : Rel K φ F env σ H) (e : envI env i = some a) : σ[i]? = some (some (.int a)) := by
  unfold envI at e
  split at e
  · rename_i b hb
    cases e
    have h := r.slot i _ hb
    generalize σ[i]? = o at h ⊢
    cases h with
    | fz h => unfold R at h; rw [h]
  · cases e
theorem upd_comm {H : Hp} {p b : Addr} {x y : HO} (h : b ≠ p) : L2.upd (L2.upd H p x) b y = L2.upd (L2.upd H b y) p x := by
  funext q
  by_cases h1 : q = b
  · subst h1; rw [upd_same, upd_ne h, upd_same]
  · rw [upd_ne h1]
    by_cases h2 : q = p
    · subst h2; rw [upd_same, upd_same]
    · rw [upd_ne h2, upd_ne h2, upd_ne h1]
def kvsT (l : List (Int × Int × Bool)) : List (List Key × V) := l.map fun e => ([Sum.inl e.1, Sum.inl e.2.1], V.bl e.2.2)
theorem tPairs_names {K : PySem.W.Frag} {φ : Act} {F : Hp} {env : Env} {σ : L2.St} {p : Addr} : ∀ {tab : List (Nat × Nat × Bool)} {l : List (Int × Int × Bool)} {G : Hp} {Q : List (V × V) → Hp → Prop}, tabK env tab = some l → G p = none → Rel K φ F env σ G →
    (∀ G' ps, G' p = none → (∀ b o, G b = some o → G' b = some o) → Rel K φ F env σ G' → PT (L2.upd G' p (.dT [])) ps (kvsT l) → Q ps (L2.upd G' p (.dT []))) → tPairs (trsN tab) σ (L2.upd G p (.dT [])) Q
  | [], l, G, Q, e, hp, r, k => by
    cases e
    exact k G [] hp (fun _ _ h => h) r .nil
  | (i, j, t) :: tab, l, G, Q, e, hp, r, k => by
    unfold tabK at e
    split at e
    · rename_i a b l' ea eb el
      cases e
      show tTup _ σ _ _
      refine ⟨_, r.intAt ea, _, r.intAt eb, ?_, fun q hq => ?_⟩
      · show 2 ≤ sizeLine
        rw [sizeLine_eq]; omega
      have hqp : q ≠ p := fun h => by rw [h, upd_same] at hq; cases hq
      have hG : G q = none := by rw [upd_ne hqp] at hq; exact hq
      rw [upd_comm hqp]
      have hp' : L2.upd G q (.tup [V.int a, V.int b]) p = none := by rw [upd_ne (Ne.symm hqp)]; exact hp
      refine tPairs_names el hp' (r.laid hG) fun G' ps h1 h2 h3 h4 => ?_
      have h5 : G' q = some (.tup [V.int a, V.int b]) := h2 _ _ upd_same
      refine k G' _ h1 (fun c o hc => h2 c o (by rw [upd_ne (fun z => by rw [z, hG] at hc; cases hc)]; exact hc)) h3 (.cons ⟨q, rfl, ?_, rfl⟩ h4)
      rw [upd_ne hqp]; exact h5
    · cases e
theorem rl_bls {K : PySem.W.Frag} {F : Hp} : ∀ l : List (Int × Int × Bool), RL K F (l.map fun e => D.bl e.2.2) ((kvsT l).map (·.2))
  | [] => RL.nil
  | e :: l => RL.cons (by unfold R; rfl) (rl_bls l)
theorem tabK_len {env : Env} : ∀ {tab : List (Nat × Nat × Bool)} {l : List (Int × Int × Bool)}, tabK env tab = some l → l.length = tab.length
  | [], l, e => by cases e; rfl
  | (i, j, t) :: tab, l, e => by
    unfold tabK at e
    split at e
    · rename_i a b l' ea eb el
      cases e
      simp [tabK_len el]
    · cases e
theorem ex_dicT {X : Cx} {Γ : Hp → Option Ea → Prop} {pos : Pos} {keys : List (Option Expr)} {vals : List Expr} {tab : List (Nat × Nat × Bool)} (hu : X.A.units + 1 < cLine) (h : DTX X pos keys vals tab) (hall : keys.all (·.isSome) = true) (hl : keys.length = vals.length) (h0 : keys ≠ []) (h15 : keys.length ≤ 15) (hlt : tab.length ≤ 15) :
    EX X Γ (.Dict keys vals pos) (eDicT tab) :=
  ⟨fun φ hφ => PE.weak (pe_dispT hu h.pps hall hl h0 h15) fun σ H Q q => by
    obtain ⟨F, env, r, env', r0, e, k⟩ := q
    unfold eDicT at e
    split at e
    · rename_i l el
      split at e
      · rename_i hn
        cases e
        intro p hp
        refine tPairs_names el hp r0 fun G' ps h1 h2 h3 h4 => ⟨upd_same, kvsT l, h4, ?_, ?_⟩
        · have := tabK_len el
          simp only [kvsT, List.length_map]; omega
        have hkn : ((kvsT l).map (·.1)).Nodup := by
          have e1 : (kvsT l).map (·.1) = (l.map fun e => (e.1, e.2.1)).map fun k => ([Sum.inl k.1, Sum.inl k.2] : List Key) := by simp [kvsT]
          rw [e1]
          refine List.Pairwise.map _ (fun a b hab => ?_) hn
          intro hq
          injection hq with hq1 hq2
          injection hq1 with hq1
          injection hq2 with hq2 _
          injection hq2 with hq2
          exact hab (Prod.ext hq1 hq2)
        have hm := mergeT_new (kvsT l) [] (by simpa using hkn)
        rw [List.nil_append] at hm
        rw [hm, upd_upd']
        have hob : ObjR X.K F (.dT (kvsT l)) (.dic (.non :: l.map fun e => D.tup [.int e.1, .int e.2.1]) (l.map fun e => D.bl e.2.2)) := ⟨by simp [kvsT, kD], rl_bls l⟩
        obtain ⟨r', g⟩ := h3.fresh (ho := .dT (kvsT l)) h1 hob
        exact k F _ _ (.refl _) r' g
      · cases e
    · cases e⟩
end PV
end

section
set_option maxRecDepth 100000
namespace PV
open PySem PySem.Spec PyProof.Rows L2
variable [CodeTabs]
section
variable {X : Cx} {Γ : Hp → Option Ea → Prop} {cm : CM} {W : WX}
/-- a statement of which nothing is told: it is not reached -/
theorem sx_no {st : Stmt} : SX X Γ cm W st sNo := ⟨fun φ hφ => ⟨fun pins s σ H D I h => by
  obtain ⟨F, env, o, r0, e, k⟩ := h
  cases e⟩⟩
theorem ex_no {e : Expr} : EX X Γ e eNo := ⟨fun φ hφ => ⟨fun pins s σ H Q I h => by
  obtain ⟨F, env, r, env', r0, e, k⟩ := h
  cases e⟩⟩
end
end PV
end

section
set_option maxRecDepth 100000
namespace PV
open PySem PySem.Spec PyProof.Rows L2
variable [CodeTabs]
/-! ### min of texts -/
def rMinS (K : PySem.W.Frag) : List V → Hp → VK → Prop := fun vs H Q => ∃ (a : Addr) (x : Str) (xs : List Str), vs = [V.ref a] ∧ SqL K H a ((x :: xs).map V.str) ∧ Q (.str (PySem.W.minOf x xs)) H
theorem strs_hold {h : Heap} : ∀ {xs : List Str} {its : List Value}, Vals (xs.map V.str) its → PySem.W.HoldAll h its xs
  | [], its, r => by cases r; exact .nil
  | x :: xs, its, r => by
    rw [List.map_cons] at r
    cases r with
    | @cons a b as bs h1 h2 =>
      obtain ⟨t, rfl⟩ := h1
      exact .cons (PySem.W.holds_str x t) (strs_hold h2)
theorem strs_at : ∀ {xs : List Str} {its : List Value} {i : Nat} {v : Value}, Vals (xs.map V.str) its → its[i]? = some v → ∃ (x : Str) (t : Tok), v = .str x t
  | [], its, i, v, r, e => by cases r; simp at e
  | x :: xs, its, i, v, r, e => by
    rw [List.map_cons] at r
    cases r with
    | @cons a b as bs h1 h2 =>
      cases i with
      | zero =>
        obtain ⟨t, rfl⟩ := h1
        simp at e
        exact ⟨x, t, e.symm⟩
      | succ i => exact strs_at h2 (by simpa using e)
theorem cr_minS {X : Cx} (hc : X.calm = true) (hu : X.A.units + 1 < cLine) : CallR X (.builtin "min") (rMinS X.K) := by
  intro pins s σ H vs us Q I r h
  obtain ⟨a, x, xs, rfl, hs, q⟩ := h
  obtain ⟨its, rv, hl, _⟩ := I.list hs
  rw [Vals.ref1 r]
  refine PySem.W.min_list_datum (α := Str) (I.ok.hd hc) hl.isList (by rw [List.toList_toArray]; exact strs_hold rv) (by show X.A.units + 1 + 0 < cLine; omega) fun i v h' tk hi hv hk => ?_
  obtain ⟨y, t, rfl⟩ := strs_at (i := i) rv (by simpa using hi)
  obtain ⟨as, hr⟩ := hv
  have hy : y = PySem.W.minOf x xs := by
    cases hr; rfl
  subst hy
  exact ⟨.str _, H, I.kept hk, ⟨t, rfl⟩, q⟩
theorem minOf_minL (x : List Nat) : ∀ xs : List (List Nat), PySem.W.minOf (⟨x.toArray⟩ : Str) (xs.map fun s => (⟨s.toArray⟩ : Str)) = ⟨(minL x xs).toArray⟩ := fun xs => by
  unfold PySem.W.minOf minL
  induction xs generalizing x with
  | nil => rfl
  | cons y ys ih =>
    rw [List.map_cons, List.foldl_cons, List.foldl_cons]
    have e : PySem.W.DatumOrd.lt (⟨y.toArray⟩ : Str) (⟨x.toArray⟩ : Str) = decide (y < x) := rfl
    rw [e]
    cases decide (y < x)
    · exact ih x
    · exact ih y
theorem minL_mem : ∀ (xs : List (List Nat)) (x : List Nat), minL x xs ∈ x :: xs
  | [], x => by simp [minL]
  | y :: ys, x => by
    unfold minL
    rw [List.foldl_cons]
    cases decide (y < x)
    · have := minL_mem ys x
      unfold minL at this
      simp only [Bool.false_eq_true, if_false, List.mem_cons] at this ⊢
      rcases this with h | h
      · exact .inl h
      · exact .inr (.inr h)
    · have := minL_mem ys y
      unfold minL at this
      simp only [if_true, List.mem_cons] at this ⊢
      exact .inr this
theorem cd_minX {K : PySem.W.Frag} : CallD K (fun xs H Q => rMinS K xs H Q ∨ rMinV K xs H Q) dMinX := by
  intro F H xs cs res Q s hc e
  have old : dMin cs = some res → (∀ i, res ≠ .bor i) ∧ (ResQ K F H res Q → rMinS K xs H Q ∨ rMinV K xs H Q) := fun e => by
    obtain ⟨p, q⟩ := cd_min F H xs cs res Q s hc e
    exact ⟨p, fun z => .inr (q z)⟩
  unfold dMinX at e
  split at e
  · split at e
    · rename_i x r ei
      cases e
      obtain ⟨v, rfl, hv⟩ := hc.one
      obtain ⟨p, vs, rfl, h1, h2⟩ := hv.lst s
      obtain ⟨h3, h4⟩ := RL.strs h2 ei
      rw [h3, List.map_cons] at h1
      refine ⟨fun i q => (nomatch q), fun q => .inl ⟨p, _, _, rfl, SqL.of h1, ?_⟩⟩
      rw [minOf_minL]
      refine q.1 _ ?_
      unfold R
      exact ⟨rfl, h4 _ (minL_mem r x)⟩
    · exact old e
  · exact old e
theorem call_minX {X : Cx} (hc : X.calm = true) (hu : X.A.units + 1 < cLine) : CallR X (.builtin "min") (fun xs H Q => rMinS X.K xs H Q ∨ rMinV X.K xs H Q) := CallR.or (cr_minS hc hu) (call_minV hc)
/-! ### a text times a number -/
theorem op_mulX {X : Cx} : OpR X (binaryOp .Mult) (fun x y H Q => rMulS x y H Q ∨ rMulV x y H Q) := OpR.or op_mulS op_mulV
theorem opd_mulX {K : PySem.W.Frag} : OpD K (fun x y H Q => rMulS x y H Q ∨ rMulV x y H Q) dMulX := by
  intro F H x y c d res Q s hc hd e
  unfold dMulX at e
  split at e
  · obtain ⟨p, q⟩ := opd_mulS F H x y _ _ res Q s hc hd e
    exact ⟨p, fun z => .inl (q z)⟩
  · obtain ⟨p, q⟩ := opd_mul F H x y _ _ res Q s hc hd e
    exact ⟨p, fun z => .inr (q z)⟩
end PV
end

section
set_option maxRecDepth 100000
namespace PV
open PySem PySem.Spec PyProof.Rows L2
/-- a lambda of one parameter v that captures y: lambda v: -y[v], over a list of ints -/
structure LamSc (sc : Scope) (v y : Str) : Prop where
  kind : sc.kind = .function
  co : sc.isCoroutine = false
  gen : sc.isGenerator = false
  nocell : ∀ x ∈ sc.names, x.2 ≠ .cell
  par : sc.names.lookup v = some .local
  fr : sc.names.lookup y = some .free
section
variable {prog : Program} {w : World} {A : Around} {s : Shared} {f c' a cc : Addr} {qual v y : Str} {params : Arguments} {scope : Scope} {cl : List (Str × Addr)} {pm ctv : Value} {p1 p2 p3 p4 : Pos} {items : Array Value}
theorem lam_neg {k n : Int} {tk tn : Tok} (hroom : A.depth < recursionLimit) (lim : s.heap.NoLimit) (S : LamSc scope v y) (hvd : (v == ("__debug__" : Str)) = false) (hyd : (y == ("__debug__" : Str)) = false) (hyc : (y == ("__classdict__" : Str)) = false)
    (ho : s.heap.get? f = some (PySem.W.kla_obj "<lambda>" qual params (.UnaryOp .USub (.Subscript (.Name y p1) (.Name v p2) p3) p4) scope cl pm c' ctv))
    (hcd : s.heap.CodeRec (.ref c') qual) (hbind : ∀ u : Value, bindArgs (PySem.W.kla_fn "<lambda>" qual params (.UnaryOp .USub (.Subscript (.Name y p1) (.Name v p2) p3) p4) scope cl pm (.ref c') ctv) ⟨[u], []⟩ = pure [(v, u)])
    (hcl : cl.lookup y = some cc) (hcell : s.heap.IsCell cc (some (.ref a))) (hl : s.heap.IsList a items) (h0 : 0 ≤ k) (hfit : k < 2 ^ 63) (hx : items[k.toNat]? = some (.int n tn)) :
    wpAny (model prog w) A (call (.ref f) [.int k tk]) (PySem.W.KeyPure (.int (-n)) s) (fun _ _ => False) s := by
  refine wpAny_call (PySem.W.kla_callFunE hroom ho rfl S.co S.gen rfl hcd ?_)
  rw [hbind]
  refine wpAny_pure (wpAny_newFunctionEnv S.nocell (fun x hx => ?_) (fun h₁ hns hsb => ⟨lim.fresh _ hsb, ?_⟩) S.kind)
  · rw [List.mem_singleton.1 hx]; exact S.par
  have kp : ∀ b o, s.heap.get? b = some o → h₁.get? b = some o := fun b o e => hsb.extBut b o (Nat.ne_of_lt (Heap.lt_size e)) (Heap.get?_push_of_some _ e)
  have cell1 : h₁.IsCell cc (some (.ref a)) := let ⟨o, h2, hd⟩ := hcell; ⟨o, kp _ _ h2, hd⟩
  refine PySem.W.kla_codeExpr ?_
  refine wpAny_UnaryOp ?_
  refine wpAny_Subscript_Name (T := "list") (id := "list.__getitem__") ?_ ?_
  · exact PySem.slot_list_getitem.lookup
  · refine wpAny_Name (wpAny_loadName_free (c := cc) (v := .ref a) S.kind ?_ hcl cell1 ?_ hyc) hyd
    · exact S.fr
    · refine wpAny_Name (wpAny_loadName_local (v := .int k tk) S.kind ?_ hns ?_ ?_) hvd
      · exact S.par
      · simp [List.lookup]
      · have l1 : h₁.IsList a items := let ⟨o, h2, h3⟩ := hl; ⟨o, kp _ _ h2, h3⟩
        refine ⟨Heap.IsList.typeIs l1, ?_⟩
        refine wpAny_getItem_list l1 h0 hfit hx (PyProof.Rows.neg_int ?_)
        refine ⟨h₁, _, rfl, kp, ?_⟩
        exact .int _ _
theorem lam_negpair {k n : Int} {p5 p6 : Pos} {kk : Nat} {tk tn : Tok} (hroom : A.depth < recursionLimit) (lim : s.heap.NoLimit) (S : LamSc scope v y) (hvd : (v == ("__debug__" : Str)) = false) (hyd : (y == ("__debug__" : Str)) = false) (hyc : (y == ("__classdict__" : Str)) = false)
    (ho : s.heap.get? f = some (PySem.W.kla_obj "<lambda>" qual params (.Tuple [(.UnaryOp .USub (.Subscript (.Name y p1) (.Name v p2) p3) p4), .Name v p5] kk p6) scope cl pm c' ctv))
    (hcd : s.heap.CodeRec (.ref c') qual) (hbind : ∀ u : Value, bindArgs (PySem.W.kla_fn "<lambda>" qual params (.Tuple [(.UnaryOp .USub (.Subscript (.Name y p1) (.Name v p2) p3) p4), .Name v p5] kk p6) scope cl pm (.ref c') ctv) ⟨[u], []⟩ = pure [(v, u)])
    (hcl : cl.lookup y = some cc) (hcell : s.heap.IsCell cc (some (.ref a))) (hl : s.heap.IsList a items) (h0 : 0 ≤ k) (hfit : k < 2 ^ 63) (hx : items[k.toNat]? = some (.int n tn)) :
    wpAny (model prog w) A (call (.ref f) [.int k tk]) (PySem.W.KeyPure (.tuple [.int (-n), .int k]) s) (fun _ _ => False) s := by
  refine wpAny_call (PySem.W.kla_callFunE hroom ho rfl S.co S.gen rfl hcd ?_)
  rw [hbind]
  refine wpAny_pure (wpAny_newFunctionEnv S.nocell (fun x hx => ?_) (fun h₁ hns hsb => ⟨lim.fresh _ hsb, ?_⟩) S.kind)
  · rw [List.mem_singleton.1 hx]; exact S.par
  have kp : ∀ b o, s.heap.get? b = some o → h₁.get? b = some o := fun b o e => hsb.extBut b o (Nat.ne_of_lt (Heap.lt_size e)) (Heap.get?_push_of_some _ e)
  have cell1 : h₁.IsCell cc (some (.ref a)) := let ⟨o, h2, hd⟩ := hcell; ⟨o, kp _ _ h2, hd⟩
  refine PySem.W.kla_codeExpr ?_
  refine wpAny_Tuple ?_
  refine wpAny_items_cons ?_
  refine wpAny_UnaryOp ?_
  refine wpAny_Subscript_Name (T := "list") (id := "list.__getitem__") ?_ ?_
  · exact PySem.slot_list_getitem.lookup
  · refine wpAny_Name (wpAny_loadName_free (c := cc) (v := .ref a) S.kind ?_ hcl cell1 ?_ hyc) hyd
    · exact S.fr
    · refine wpAny_Name (wpAny_loadName_local (v := .int k tk) S.kind ?_ hns ?_ ?_) hvd
      · exact S.par
      · simp [List.lookup]
      · have l1 : h₁.IsList a items := let ⟨o, h2, h3⟩ := hl; ⟨o, kp _ _ h2, h3⟩
        refine ⟨Heap.IsList.typeIs l1, ?_⟩
        refine wpAny_getItem_list l1 h0 hfit hx (PyProof.Rows.neg_int ?_)
        refine wpAny_items_cons (wpAny_Name (wpAny_loadName_local (v := .int k tk) S.kind ?_ hns ?_ ?_) hvd)
        · exact S.par
        · simp [List.lookup]
        refine wpAny_items_nil ⟨by show (2 : Nat) ≤ sizeLine; decide +kernel, ?_⟩
        refine ⟨_, _, rfl, fun b o e => Heap.get?_push_of_some _ (kp b o e), ?_⟩
        exact .tuple (Heap.get?_push_size h₁ rfl) rfl rfl (.cons (.int _ _) (.cons (.int _ _) .nil))
theorem lam_pair {k n : Int} {p5 p6 : Pos} {kk : Nat} {tk tn : Tok} (hroom : A.depth < recursionLimit) (lim : s.heap.NoLimit) (S : LamSc scope v y) (hvd : (v == ("__debug__" : Str)) = false) (hyd : (y == ("__debug__" : Str)) = false) (hyc : (y == ("__classdict__" : Str)) = false)
    (ho : s.heap.get? f = some (PySem.W.kla_obj "<lambda>" qual params (.Tuple [(.Subscript (.Name y p1) (.Name v p2) p3), .Name v p5] kk p6) scope cl pm c' ctv))
    (hcd : s.heap.CodeRec (.ref c') qual) (hbind : ∀ u : Value, bindArgs (PySem.W.kla_fn "<lambda>" qual params (.Tuple [(.Subscript (.Name y p1) (.Name v p2) p3), .Name v p5] kk p6) scope cl pm (.ref c') ctv) ⟨[u], []⟩ = pure [(v, u)])
    (hcl : cl.lookup y = some cc) (hcell : s.heap.IsCell cc (some (.ref a))) (hl : s.heap.IsList a items) (h0 : 0 ≤ k) (hfit : k < 2 ^ 63) (hx : items[k.toNat]? = some (.int n tn)) :
    wpAny (model prog w) A (call (.ref f) [.int k tk]) (PySem.W.KeyPure (.tuple [.int n, .int k]) s) (fun _ _ => False) s := by
  refine wpAny_call (PySem.W.kla_callFunE hroom ho rfl S.co S.gen rfl hcd ?_)
  rw [hbind]
  refine wpAny_pure (wpAny_newFunctionEnv S.nocell (fun x hx => ?_) (fun h₁ hns hsb => ⟨lim.fresh _ hsb, ?_⟩) S.kind)
  · rw [List.mem_singleton.1 hx]; exact S.par
  have kp : ∀ b o, s.heap.get? b = some o → h₁.get? b = some o := fun b o e => hsb.extBut b o (Nat.ne_of_lt (Heap.lt_size e)) (Heap.get?_push_of_some _ e)
  have cell1 : h₁.IsCell cc (some (.ref a)) := let ⟨o, h2, hd⟩ := hcell; ⟨o, kp _ _ h2, hd⟩
  refine PySem.W.kla_codeExpr ?_
  refine wpAny_Tuple ?_
  refine wpAny_items_cons ?_
  refine wpAny_Subscript_Name (T := "list") (id := "list.__getitem__") ?_ ?_
  · exact PySem.slot_list_getitem.lookup
  · refine wpAny_Name (wpAny_loadName_free (c := cc) (v := .ref a) S.kind ?_ hcl cell1 ?_ hyc) hyd
    · exact S.fr
    · refine wpAny_Name (wpAny_loadName_local (v := .int k tk) S.kind ?_ hns ?_ ?_) hvd
      · exact S.par
      · simp [List.lookup]
      · have l1 : h₁.IsList a items := let ⟨o, h2, h3⟩ := hl; ⟨o, kp _ _ h2, h3⟩
        refine ⟨Heap.IsList.typeIs l1, ?_⟩
        refine wpAny_getItem_list l1 h0 hfit hx ?_
        refine wpAny_items_cons (wpAny_Name (wpAny_loadName_local (v := .int k tk) S.kind ?_ hns ?_ ?_) hvd)
        · exact S.par
        · simp [List.lookup]
        refine wpAny_items_nil ⟨by show (2 : Nat) ≤ sizeLine; decide +kernel, ?_⟩
        refine ⟨_, _, rfl, fun b o e => Heap.get?_push_of_some _ (kp b o e), ?_⟩
        exact .tuple (Heap.get?_push_size h₁ rfl) rfl rfl (.cons (.int _ _) (.cons (.int _ _) .nil))
end
end PV
end

section
set_option maxRecDepth 100000
namespace PV
open PySem PySem.Spec PyProof.Rows PySem.W L2
def isI (v : Value) (x : Int) : Prop := ∃ t, v = .int x t
theorem noLimit_keeps {h h' : Heap} (x : h.NoLimit) (hk : ∀ b o, h.get? b = some o → h'.get? b = some o) : h'.NoLimit := by
  obtain ⟨mc, a, b⟩ := x
  refine ⟨mc, ?_, b⟩
  first
  | exact a.keeps hk
  | (obtain ⟨o, e, r⟩ := a; exact ⟨o, hk _ _ e, r⟩)
section
variable {prog : Program} {w : World} {A : Around} {s : Shared} {f c' a cc l : Addr} {qual v y : Str} {params : Arguments} {scope : Scope} {cl : List (Str × Addr)} {pm ctv : Value} {p1 p2 p3 p4 p5 p6 : Pos} {kk : Nat} {items vs : Array Value} {E : Value → Shared → Prop} {Q : Value → Shared → Prop} {bs : List Int} {g : Int → Int}
theorem sorted_lam_negpair (hroom : A.in1.in1.depth < recursionLimit) (lim : s.heap.NoLimit) (S : LamSc scope v y) (hvd : (v == ("__debug__" : Str)) = false) (hyd : (y == ("__debug__" : Str)) = false) (hyc : (y == ("__classdict__" : Str)) = false)
    (ho : s.heap.get? f = some (PySem.W.kla_obj "<lambda>" qual params (.Tuple [.UnaryOp .USub (.Subscript (.Name y p1) (.Name v p2) p3) p4, .Name v p5] kk p6) scope cl pm c' ctv))
    (hcd : s.heap.CodeRec (.ref c') qual) (hbind : ∀ u : Value, bindArgs (PySem.W.kla_fn "<lambda>" qual params (.Tuple [.UnaryOp .USub (.Subscript (.Name y p1) (.Name v p2) p3) p4, .Name v p5] kk p6) scope cl pm (.ref c') ctv) ⟨[u], []⟩ = pure [(v, u)])
    (hcl : cl.lookup y = some cc) (hcell : s.heap.IsCell cc (some (.ref a))) (hi : s.heap.IsList a items)
    (hl : s.heap.IsList l vs) (e : EachIs isI vs.toList bs) (hL : bs.length ≤ sizeLine) (hu : A.units + 66 < cLine)
    (hb : ∀ x ∈ bs, 0 ≤ x ∧ x < 2 ^ 63 ∧ ∃ t, items[x.toNat]? = some (.int (g x) t))
    (h : ∀ out c h' tk, (∀ b o, s.heap.get? b = some o → h'.get? b = some o) → h'.get? (s.heap.objs.size + 1) = some (seqObj "list" (List.toArray out) c) → out.length = bs.length →
      EachIs isI out (bs.mergeSort fun p q => decide (-g p < -g q ∨ (-g p = -g q ∧ p ≤ q))) → Q (.ref (s.heap.objs.size + 1)) { s with heap := h', toks := tk }) :
    wpAny (model prog w) A (call (.builtin "sorted") [.ref l] [(Str.ofString "key", .ref f)]) Q E s := by
  refine sorted_key_data (b := false) (vs := vs.toList) (fun x : Int => .tuple [.int (-g x), .int x]) (by simpa using hl) e (AllAlike.of fun _ _ => by simp [alike, alikeAll]) (Sortable.tuples fun _ => ⟨_, _, rfl⟩) hL (fun p _ => ?_) (ksk_s1 _ _) (fun _ => ksk_l1 _ _) (fun _ => ksk_t1 _ _)
    (fun u x hR hx hh tk kp => ?_) fun out c h' tk kp _ hD ln eo => ?_
  · have hd : (PyData.tuple [.int (-g p), .int p]).depth = 1 := by simp [PyData.depth, PyData.depthAll]
    omega
  · obtain ⟨tx, rfl⟩ := hR
    obtain ⟨b0, b1, t1, e1⟩ := hb x hx
    exact lam_negpair (s := { s with heap := hh, toks := tk }) hroom (noLimit_keeps lim kp) S hvd hyd hyc (kp _ _ ho) (hcd.keeps kp) hbind hcl (let ⟨o, h2, hd⟩ := hcell; ⟨o, kp _ _ h2, hd⟩) (let ⟨o, h2, h3⟩ := hi; ⟨o, kp _ _ h2, h3⟩) b0 b1 e1
  · rw [dataLe_ii (β := Int) (fun p => -g p) (fun p => p)] at eo
    exact h out c h' tk kp hD ln eo
theorem sorted_lam_pair (hroom : A.in1.in1.depth < recursionLimit) (lim : s.heap.NoLimit) (S : LamSc scope v y) (hvd : (v == ("__debug__" : Str)) = false) (hyd : (y == ("__debug__" : Str)) = false) (hyc : (y == ("__classdict__" : Str)) = false)
    (ho : s.heap.get? f = some (PySem.W.kla_obj "<lambda>" qual params (.Tuple [.Subscript (.Name y p1) (.Name v p2) p3, .Name v p5] kk p6) scope cl pm c' ctv))
    (hcd : s.heap.CodeRec (.ref c') qual) (hbind : ∀ u : Value, bindArgs (PySem.W.kla_fn "<lambda>" qual params (.Tuple [.Subscript (.Name y p1) (.Name v p2) p3, .Name v p5] kk p6) scope cl pm (.ref c') ctv) ⟨[u], []⟩ = pure [(v, u)])
    (hcl : cl.lookup y = some cc) (hcell : s.heap.IsCell cc (some (.ref a))) (hi : s.heap.IsList a items)
    (hl : s.heap.IsList l vs) (e : EachIs isI vs.toList bs) (hL : bs.length ≤ sizeLine) (hu : A.units + 66 < cLine)
    (hb : ∀ x ∈ bs, 0 ≤ x ∧ x < 2 ^ 63 ∧ ∃ t, items[x.toNat]? = some (.int (g x) t))
    (h : ∀ out c h' tk, (∀ b o, s.heap.get? b = some o → h'.get? b = some o) → h'.get? (s.heap.objs.size + 1) = some (seqObj "list" (List.toArray out) c) → out.length = bs.length →
      EachIs isI out (bs.mergeSort fun p q => decide (g p < g q ∨ (g p = g q ∧ p ≤ q))) → Q (.ref (s.heap.objs.size + 1)) { s with heap := h', toks := tk }) :
    wpAny (model prog w) A (call (.builtin "sorted") [.ref l] [(Str.ofString "key", .ref f)]) Q E s := by
  refine sorted_key_data (b := false) (vs := vs.toList) (fun x : Int => .tuple [.int (g x), .int x]) (by simpa using hl) e (AllAlike.of fun _ _ => by simp [alike, alikeAll]) (Sortable.tuples fun _ => ⟨_, _, rfl⟩) hL (fun p _ => ?_) (ksk_s1 _ _) (fun _ => ksk_l1 _ _) (fun _ => ksk_t1 _ _)
    (fun u x hR hx hh tk kp => ?_) fun out c h' tk kp _ hD ln eo => ?_
  · have hd : (PyData.tuple [.int (g p), .int p]).depth = 1 := by simp [PyData.depth, PyData.depthAll]
    omega
  · obtain ⟨tx, rfl⟩ := hR
    obtain ⟨b0, b1, t1, e1⟩ := hb x hx
    exact lam_pair (s := { s with heap := hh, toks := tk }) hroom (noLimit_keeps lim kp) S hvd hyd hyc (kp _ _ ho) (hcd.keeps kp) hbind hcl (let ⟨o, h2, hd⟩ := hcell; ⟨o, kp _ _ h2, hd⟩) (let ⟨o, h2, h3⟩ := hi; ⟨o, kp _ _ h2, h3⟩) b0 b1 e1
  · rw [dataLe_ii (β := Int) (fun p => g p) (fun p => p)] at eo
    exact h out c h' tk kp hD ln eo
theorem sorted_lam_neg (hroom : A.in1.in1.depth < recursionLimit) (lim : s.heap.NoLimit) (S : LamSc scope v y) (hvd : (v == ("__debug__" : Str)) = false) (hyd : (y == ("__debug__" : Str)) = false) (hyc : (y == ("__classdict__" : Str)) = false)
    (ho : s.heap.get? f = some (PySem.W.kla_obj "<lambda>" qual params (.UnaryOp .USub (.Subscript (.Name y p1) (.Name v p2) p3) p4) scope cl pm c' ctv))
    (hcd : s.heap.CodeRec (.ref c') qual) (hbind : ∀ u : Value, bindArgs (PySem.W.kla_fn "<lambda>" qual params (.UnaryOp .USub (.Subscript (.Name y p1) (.Name v p2) p3) p4) scope cl pm (.ref c') ctv) ⟨[u], []⟩ = pure [(v, u)])
    (hcl : cl.lookup y = some cc) (hcell : s.heap.IsCell cc (some (.ref a))) (hi : s.heap.IsList a items)
    (hl : s.heap.IsList l vs) (e : EachIs isI vs.toList bs) (hL : bs.length ≤ sizeLine) (hu : A.units + 66 < cLine)
    (hb : ∀ x ∈ bs, 0 ≤ x ∧ x < 2 ^ 63 ∧ ∃ t, items[x.toNat]? = some (.int (g x) t))
    (h : ∀ out c h' tk, (∀ b o, s.heap.get? b = some o → h'.get? b = some o) → h'.get? (s.heap.objs.size + 1) = some (seqObj "list" (List.toArray out) c) → out.length = bs.length →
      EachIs isI out (bs.mergeSort fun p q => decide (-g p ≤ -g q)) → Q (.ref (s.heap.objs.size + 1)) { s with heap := h', toks := tk }) :
    wpAny (model prog w) A (call (.builtin "sorted") [.ref l] [(Str.ofString "key", .ref f)]) Q E s := by
  refine sorted_key_data (b := false) (vs := vs.toList) (fun x : Int => .int (-g x)) (by simpa using hl) e (AllAlike.of fun _ _ => by simp [alike]) (Sortable.others fun _ => ⟨by simp, by simp⟩) hL (fun p _ => ?_) (ksk_s1 _ _) (fun _ => ksk_l1 _ _) (fun _ => ksk_t1 _ _)
    (fun u x hR hx hh tk kp => ?_) fun out c h' tk kp _ hD ln eo => ?_
  · have hd : (PyData.int (-g p)).depth = 0 := by simp [PyData.depth]
    omega
  · obtain ⟨tx, rfl⟩ := hR
    obtain ⟨b0, b1, t1, e1⟩ := hb x hx
    exact lam_neg (s := { s with heap := hh, toks := tk }) hroom (noLimit_keeps lim kp) S hvd hyd hyc (kp _ _ ho) (hcd.keeps kp) hbind hcl (let ⟨o, h2, hd⟩ := hcell; ⟨o, kp _ _ h2, hd⟩) (let ⟨o, h2, h3⟩ := hi; ⟨o, kp _ _ h2, h3⟩) b0 b1 e1
  · rw [dataLe_int (β := Int) (fun p => -g p)] at eo
    exact h out c h' tk kp hD ln eo
end
end PV
end

section
set_option maxRecDepth 100000
namespace PySem.W
open PySem PySem.Spec PyProof.Rows PySem.Calls
section
variable {prog : Program} {w : World} {A : Around} {E : Value → Shared → Prop} {s : Shared} {r : Addr} {a b c : Int} {t u v : Tok} {n : Nat}
theorem sorted_range_of_sort {kw : List (Str × Value)} {Q : Value → Shared → Prop} (hh : A.in1.handled = none) (hr : IsRange s.heap r a b c t u v) (hsmall : Builtin.Range.small a b c = true) (hn : Builtin.Range.rangeSize a b c = n) (hlen : n ≤ 2 ^ 24) (ha1 : argsOk "sorted" ⟨[.ref r], kw⟩) (ha2 : ∀ x, argsOk "list.sort" ⟨[.ref x], kw⟩)
    (hsz : ∀ acc : Array Value, acc.size = n → acc.toList.length ≤ sizeLine)
    (body : ∀ (h' : Heap) (tk : Nat) (acc : Array Value), (∀ b o, s.heap.get? b = some o → h'.get? b = some o) → ItemsOf (fun i v => ∃ t, v = .int (a + i * c) t) acc n → ∀ E' : Value → Shared → Prop,
      wpAny (model prog w) A.in1.in1 (Builtin.«list.sort» ⟨[.ref h'.objs.size], kw⟩) (fun f s' => f = .done (.ret .none) ∧ Q (.ref h'.objs.size) s') E' { s with heap := h'.push (seqObj "list" acc.toList.toArray 0), toks := tk }) :
    wpAny (model prog w) A (call (.builtin "sorted") [.ref r] kw) Q E s := by
  refine call_function_entry_kw kind_sorted plain_sorted entry_sorted ha1 ?_
  unfold Builtin.«sorted»
  refine wpAny_bind (m := checkCount "sorted" 1 1 _) (wpAny_pure ?_)
  refine wpAny_bind (L2.collect_range hh hr hsmall hn hlen fun h' tk acc kp hi => ?_)
  refine wpAny_bind (wpAny_newList ?_ (hsz acc hi.1))
  refine wpAny_bind (wpAny_holding (wpAny_call_entry_kw slot_list_sort ⟨_, Heap.get?_push_size _ rfl, rfl⟩ entry_list_sort ?body (ha2 _)))
  case body =>
    show wpAny (model prog w) A.in1.in1 (Builtin.«list.sort» ⟨[.ref h'.objs.size], kw⟩) _ _ _
    refine wpAny_mono (body h' tk acc kp hi _) (fun f s' hf => ?_) fun _ _ e => e
    obtain ⟨rfl, hq⟩ := hf
    exact ⟨_, rfl, wpAny_pure ⟨_, rfl, hq⟩⟩
theorem sorted_range_key {f : Value} {kw : List (Str × Value)} {bb : Bool} {Q : Value → Shared → Prop} (k : Int → PyData) (hh : A.in1.handled = none) (hr : IsRange s.heap r a b c t u v) (hsmall : Builtin.Range.small a b c = true) (hn : Builtin.Range.rangeSize a b c = n) (hlen : n ≤ 2 ^ 24) (hsz : n ≤ sizeLine)
    (hal : AllAlike (((List.range n).map fun i : Nat => a + (i : Int) * c).map k)) (hk : Sortable (((List.range n).map fun i : Nat => a + (i : Int) * c).map k)) (hu : ∀ x : Int, A.units + 2 + (k x).depth < cLine) (ha1 : argsOk "sorted" ⟨[.ref r], kw⟩) (ha2 : ∀ x, argsOk "list.sort" ⟨[.ref x], kw⟩) (ht : ∀ x, Builtin.«list.sort» ⟨[.ref x], kw⟩ = ksk_tree x f bb)
    (turn : ∀ (v : Value) (x : Int), PV.isI v x → x ∈ ((List.range n).map fun i : Nat => a + (i : Int) * c) → ∀ (h : Heap) (tk : Nat), (∀ b o, s.heap.get? b = some o → h.get? b = some o) →
      wpAny (model prog w) A.in1.in1 (call f [v]) (KeyPure (k x) { s with heap := h, toks := tk }) (fun _ _ => False) { s with heap := h, toks := tk })
    (h : ∀ out l c' h' tk, (∀ b o, s.heap.get? b = some o → h'.get? b = some o) → (∀ b o, s.heap.get? b = some o → b < l) → h'.get? l = some (seqObj "list" (List.toArray out) c') → EachIs PV.isI out (((List.range n).map fun i : Nat => a + (i : Int) * c).mergeSort (dataLe bb k)) →
      Q (.ref l) { s with heap := h', toks := tk }) :
    wpAny (model prog w) A (call (.builtin "sorted") [.ref r] kw) Q E s := by
  refine sorted_range_of_sort hh hr hsmall hn hlen ha1 ha2 (fun acc e => by rw [Array.length_toList, e]; exact hsz) fun h₀ tk₀ acc kp hi E' => ?_
  have each : ∀ (m : Nat) (vs : List Value), vs.length = m → ∀ o : Nat, (∀ j x, vs[j]? = some x → PV.isI x (a + ((o + j : Nat) : Int) * c)) → EachIs PV.isI vs ((List.range' o m).map fun i : Nat => a + (i : Int) * c) := by
    intro m
    induction m with
    | zero => intro vs e o _; rw [List.length_eq_zero_iff.1 e]; exact .nil
    | succ m ih =>
      intro vs e o hv
      match vs, e, hv with
      | x :: vs, e, hv =>
        rw [List.range'_succ]
        exact .cons (hv 0 x rfl) (ih vs (by simpa using e) (o + 1) fun j y hj => by
          have := hv (j + 1) y (by simpa using hj)
          rwa [show o + (j + 1) = o + 1 + j by omega] at this)
  have e : EachIs PV.isI acc.toList ((List.range n).map fun i : Nat => a + (i : Int) * c) := by
    rw [List.range_eq_range']
    exact each n acc.toList (by rw [Array.length_toList]; exact hi.1) 0 fun j x hj => by
      have := hi.2 j x (by simpa using hj)
      simpa [PV.isI] using this
  have fresh : ∀ b o, s.heap.get? b = some o → b < h₀.objs.size := fun b o q => Heap.lt_size (kp b o q)
  have up : ∀ {g : Heap}, KeepsBut h₀.objs.size (h₀.push (seqObj "list" acc.toList.toArray 0)) g → ∀ b o, s.heap.get? b = some o → g.get? b = some o := fun {g} kb b o q =>
    kb b o (Nat.ne_of_lt (Heap.lt_size (kp b o q))) (Heap.get?_push_of_some _ (kp b o q))
  rw [ht]
  refine keyH_tree (kz := ((List.range n).map fun i : Nat => a + (i : Int) * c).map k) (s := { s with heap := h₀.push (seqObj "list" acc.toList.toArray 0), toks := tk₀ }) (Heap.get?_push_size _ rfl) (by rw [List.length_map]; exact e.length.symm) (by rw [e.length, List.length_map, List.length_range]; exact hsz) hal hk (bound_map (A := A.in1.in1) fun x _ => hu x)
    (keyH_turns (s := { s with heap := h₀.push (seqObj "list" acc.toList.toArray 0), toks := tk₀ }) e fun v x hR hx hq tk kb => turn v x hR hx hq tk (up kb)) fun h' tk out cc kb hD ko => ⟨rfl, ?_⟩
  exact h out _ cc h' tk (up kb) fresh hD (keyedOut_each k ko e)
end
end PySem.W
end

section
set_option maxRecDepth 100000
set_option maxHeartbeats 2000000
namespace PV
open PySem PySem.Spec PyProof.Rows L2 LamX
/-- what stays when a code object is written into its table -/
structure Grew (T : List NdefX.NTab) (H H1 : Hp) : Prop where
  keep : ∀ b o, H b = some o → (∀ ps, o ≠ .tbl ps) → H1 b = some o
  tbl : ∀ b ps, H b = some (.tbl ps) → ∃ qs, H1 b = some (.tbl qs)
  tabs : NdefX.TabsN T H1
section
variable {X : Cx} {pins : List (Addr × Obj)} {σ : L2.St} {H : Hp} {s : Shared}
theorem lam_made {T : List NdefX.NTab} {nm : Nat → Nat → Str} {c P : Addr} {ar : Arguments} {bd : Expr} {sc : Scope} {lp : Pos} {E Q : Value → Shared → Prop}
    (I : Inv X pins σ H s) (TB : TabB X.base X.mg c P) (hc0 : X.env.code = .ref c) (hmem : (P, nm) ∈ T) (hn : nm lp.line lp.col = X.env.qual ++ "<lambda>")
    (hu : ∀ p ∈ T, p.1 = P → p.2 = nm) (tT : NdefX.TabsN T H) (hdf : defaultsOf ar X.env = ([], [])) (hfr : ∀ y ∈ sc.names, y.2 = .free → ∃ c, X.env.cells.lookup y.1 = some c)
    (go : ∀ (f c' : Addr) (pm ctv : Value) (H1 : Hp) (s' : Shared), Inv X pins σ H1 s' → Grew T H H1 → (∀ b o, b ≠ P → s.heap.get? b = some o → s'.heap.get? b = some o) → s'.heap.objs.size = f + 1 → s'.heap.CodeRec (.ref c') (X.env.qual ++ "<lambda>") →
      s'.heap.get? f = some (PySem.W.kla_obj "<lambda>" (X.env.qual ++ "<lambda>") ar bd sc (cloFrom X.env.cells sc.names []) pm c' ctv) → Q (.ref f) s') :
    wpAny (model X.prog X.w) X.A (eval (.Lambda ar bd sc lp) X.env) Q E s := by
  obtain ⟨ps, hP, tr, among⟩ := (show NdefX.TabN H P nm from tT _ hmem)
  have tabAt := I.hok P _ hP
  have kb := I.bk
  cases ec : codeAmong lp ps.toList with
  | some cv =>
    obtain ⟨c', rfl, hco⟩ := among lp cv ec
    refine PySem.W.kla_eval hdf (PySem.W.kla_makeFunctionHit (mg := X.mg) (c := c) (P := P) (ps := ps) (closure_ok hfr) I.ok.glob (I.mod.glob.keeps kb) hc0 (TB.code.keeps kb) tabAt tr ec (TB.bm.keeps kb) fun ctv h' tk kp _ => ?_)
    rw [hn] at hco
    have up : ∀ b o, s.heap.get? b = some o → (h'.push (PySem.W.kla_obj "<lambda>" (X.env.qual ++ "<lambda>") ar bd sc (cloFrom X.env.cells sc.names []) ((X.mg "__name__").getD .none) c' ctv)).get? b = some o :=
      fun b o e => Heap.get?_push_of_some _ (kp b o e)
    exact go _ c' _ ctv H _ (I.kept (t' := tk) up) ⟨fun _ _ e _ => e, fun _ ps e => ⟨ps, e⟩, tT⟩ (fun b o _ e => up b o e) (PyProof.Rows.size_push' _ _) ((NdefX.codeO_at I.hok hco).keeps up) (Heap.get?_push_size _ rfl)
  | none =>
    refine PySem.W.kla_eval hdf (PySem.W.kla_makeFunction (mg := X.mg) (c := c) (P := P) (ps := ps) (closure_ok hfr) I.ok.glob (I.mod.glob.keeps kb) hc0 (TB.code.keeps kb) tabAt tr ec TB.gP (TB.bm.keeps kb) fun c' ctv h' tk but ge lt hrec hnew => ?_)
    obtain ⟨c2, oc, vs, t, e2, g1, g2, g3⟩ := hrec
    cases e2
    have free : H c' = none := I.hok.fresh ge
    have up : ∀ b o, h'.get? b = some o → (h'.push (PySem.W.kla_obj "<lambda>" (X.env.qual ++ "<lambda>") ar bd sc (cloFrom X.env.cells sc.names []) ((X.mg "__name__").getD .none) c' ctv)).get? b = some o :=
      fun b o e => Heap.get?_push_of_some _ e
    have J := inv_table (q := X.env.qual ++ "<lambda>") (t' := tk) (more := #[rawInt lp.line, rawInt lp.col, .ref c']) I hP (fun b o nb e => up _ _ (but b o nb e)) (up _ _ hnew) ge ⟨oc, vs, t, up _ _ g1, g2, g3⟩
    have kp : ∀ b o, H b = some o → (∀ ps, o ≠ .tbl ps) → upd (upd H P (.tbl (ps ++ #[rawInt lp.line, rawInt lp.col, .ref c']))) c' (CodeO c' (X.env.qual ++ "<lambda>")) b = some o := fun b o e n => by
      have n1 : b ≠ c' := ne_of_none e free
      have n2 : b ≠ P := fun z => by rw [z, hP] at e; exact n ps (Option.some.inj e).symm
      rw [upd_ne n1, upd_ne n2]; exact e
    have atP : upd (upd H P (.tbl (ps ++ #[rawInt lp.line, rawInt lp.col, .ref c']))) c' (CodeO c' (X.env.qual ++ "<lambda>")) P = some (.tbl (ps ++ #[rawInt lp.line, rawInt lp.col, .ref c'])) := by
      rw [upd_ne (ne_of_none hP free), upd_same]
    have G : Grew T H (upd (upd H P (.tbl (ps ++ #[rawInt lp.line, rawInt lp.col, .ref c']))) c' (CodeO c' (X.env.qual ++ "<lambda>"))) := by
      refine ⟨kp, fun b qs e => ?_, fun p hp => ?_⟩
      · by_cases z : b = P
        · rw [z]; exact ⟨_, atP⟩
        · exact ⟨qs, by rw [upd_ne (ne_of_none e free), upd_ne z]; exact e⟩
      · by_cases z : p.1 = P
        · rw [hu p hp z, z]
          refine ⟨_, atP, ?_, fun p' cv q => ?_⟩
          · rw [Array.toList_append]; exact PySem.TriplesOk_snoc _ _ _ _ tr
          · rw [Array.toList_append] at q
            rcases NdefX.among_app2 _ tr q with q | ⟨q, l1, l2⟩
            · obtain ⟨d, d1, d2⟩ := among p' cv q
              exact ⟨d, d1, kp _ _ d2 codeO_ne⟩
            · rw [← l1, ← l2, hn]; exact ⟨c', q, upd_same⟩
        · obtain ⟨rs, a1, a2, a3⟩ := tT p hp
          refine ⟨rs, by rw [upd_ne (ne_of_none a1 free), upd_ne z]; exact a1, a2, fun p' cv q => ?_⟩
          obtain ⟨d, d1, d2⟩ := a3 p' cv q
          exact ⟨d, d1, kp _ _ d2 codeO_ne⟩
    exact go _ c' _ ctv _ _ J G (fun b o nb e => up _ _ (but b o nb e)) (PyProof.Rows.size_push' _ _) ⟨c', oc, vs, t, rfl, up _ _ g1, g2, g3⟩ (Heap.get?_push_size _ rfl)
end
end PV
end

section
set_option maxRecDepth 100000
set_option maxHeartbeats 4000000
namespace PV
open PySem PySem.Spec PyProof.Rows L2 LamX
theorem vals_each : ∀ {out : List Value} {bs : List Int}, PySem.W.EachIs isI out bs → Vals (bs.map V.int) out
  | _, _, .nil => .nil
  | _, _, .cons ⟨t, e⟩ r => .cons ⟨t, e⟩ (vals_each r)
theorem each_vals : ∀ {bs : List Int} {out : List Value}, Vals (bs.map V.int) out → PySem.W.EachIs isI out bs
  | [], _, h => by cases h; exact .nil
  | b :: bs, _, h => by
    cases h with
    | cons r h => obtain ⟨t, rfl⟩ := r; exact .cons ⟨t, rfl⟩ (each_vals h)
theorem each_get : ∀ {out : List Value} {bs : List Int} (i : Nat), PySem.W.EachIs isI out bs → i < bs.length → ∃ t, out[i]? = some (.int (bs.getD i 0) t)
  | _, _, i, .nil, h => absurd h (Nat.not_lt_zero _)
  | _, _, 0, .cons ⟨t, e⟩ r, _ => ⟨t, by subst e; rfl⟩
  | _, _, i + 1, .cons (b := b) (bs := bs) ⟨t, e⟩ r, h => by
    obtain ⟨t', q⟩ := each_get i r (Nat.lt_of_succ_lt_succ h)
    exact ⟨t', by simpa using q⟩
theorem inIx_at {ys bs : List Int} (h : inIx ys bs = true) {x : Int} (m : x ∈ bs) : 0 ≤ x ∧ x < (ys.length : Int) := by
  have q := List.all_eq_true.mp h x m
  simpa using q
section
variable {X : Cx} {pins : List (Addr × Obj)} {σ : L2.St} {H : Hp} {s : Shared}
/-- the cell of a captured name -/
theorem cap_cell {y : Str} {j : Nat} {a : Addr} {sc : Scope} (I : Inv X pins σ H s) (hN : X.N[j]? = some y) (hj : σ[j]? = some (some (.ref a))) (hV : X.env.scope.names.lookup y = some .cell) (hf : sc.names.lookup y = some .free)
    : ∃ cc, (cloFrom X.env.cells sc.names []).lookup y = some cc ∧ s.heap.IsCell cc (some (.ref a)) := by
  obtain ⟨m, _, hl⟩ := I.loc
  obtain ⟨u, ru, lk⟩ := hl j y _ hN hj (.inr (.inl hV))
  obtain rfl : u = Value.ref a := ru
  rcases lk with ⟨z, _⟩ | ⟨_, c, h1, h2⟩
  · rw [show X.env.kindOf y = X.env.scope.names.lookup y from rfl, hV] at z; cases z
  · obtain ⟨d, hd⟩ := mem_lookup (cloFrom_has (cells := X.env.cells) (acc := []) (PySem.mem_of_lookup hf))
    rcases cloFrom_mem (PySem.mem_of_lookup hd) with z | ⟨_, z⟩
    · cases z
    · rw [h1] at z; cases z; exact ⟨_, hd, h2⟩
theorem list_items {a : Addr} {ys : List Int} (I : Inv X pins σ H s) (h : H a = some (.lst (ys.map V.int))) : ∃ (its : List Value) (n : Nat), PySem.W.EachIs isI its ys ∧ s.heap.get? a = some { cls := .type "list", data := .seq its.toArray n } ∧ ys.length ≤ sizeLine := by
  obtain ⟨z, its, n, rv, ho⟩ := I.hok a _ h
  exact ⟨its, n, each_vals rv, ho, by rw [List.length_map] at z; exact z⟩
theorem new_list {l : Addr} {out : List Value} {bs : List Int} {c tk : Nat} {h' : Heap} {Q : VK} (I : Inv X pins σ H s) (kp : ∀ b o, s.heap.get? b = some o → h'.get? b = some o) (hl : s.heap.objs.size ≤ l) (ho : h'.get? l = some (seqObj "list" out.toArray c))
    (e : PySem.W.EachIs isI out bs) (hz : bs.length ≤ sizeLine) (q : ∀ p, H p = none → Q (.ref p) (upd H p (.lst (bs.map V.int)))) : EP X pins σ Q (.ref l) { s with heap := h', toks := tk } :=
  ⟨.ref l, upd H l (.lst (bs.map V.int)), I.laid (t' := tk) kp hl ⟨by rw [List.length_map]; exact hz, out, c, vals_each e, ho⟩, rfl, q l (I.hok.fresh hl)⟩
theorem sizeLine_lt {n : Nat} (h : n ≤ sizeLine) : (n : Int) < 2 ^ 63 := by rw [sizeLine_eq] at h; omega
theorem sortK_len (k : LK) (ys bs : List Int) : (sortK k ys bs).length = bs.length := by unfold sortK; exact List.length_mergeSort _

variable {f c' a l : Addr} {qual v y : Str} {ar : Arguments} {sc : Scope} {pm ctv : Value} {p1 p2 p3 p4 p5 p6 : Pos} {kk : Nat} {k j : Nat} {ys bs : List Int} {Q : VK}
theorem run_negpair (I : Inv X pins σ H s) (hr : Room k X.A) (S : LamSc sc v y) (hvd : (v == ("__debug__" : Str)) = false) (hyd : (y == ("__debug__" : Str)) = false) (hyc : (y == ("__classdict__" : Str)) = false)
    (ho : s.heap.get? f = some (PySem.W.kla_obj "<lambda>" qual ar (.Tuple [.UnaryOp .USub (.Subscript (.Name y p1) (.Name v p2) p3) p4, .Name v p5] kk p6) sc (cloFrom X.env.cells sc.names []) pm c' ctv))
    (hcd : s.heap.CodeRec (.ref c') qual) (hbind : ∀ (cl : List (Str × Addr)) (pm cv ctv u : Value), bindArgs (PySem.W.kla_fn "<lambda>" qual ar (.Tuple [.UnaryOp .USub (.Subscript (.Name y p1) (.Name v p2) p3) p4, .Name v p5] kk p6) sc cl pm cv ctv) ⟨[u], []⟩ = pure [(v, u)])
    (hN : X.N[j]? = some y) (hj : σ[j]? = some (some (.ref a))) (hV : X.env.scope.names.lookup y = some .cell) (ha : H a = some (.lst (ys.map V.int))) (hl : H l = some (.lst (bs.map V.int))) (hx : inIx ys bs = true)
    (q : ∀ p, H p = none → Q (.ref p) (upd H p (.lst ((sortK .negpair ys bs).map V.int)))) :
    wpAny (model X.prog X.w) X.A (call (.builtin "sorted") [.ref l] [(Str.ofString "key", .ref f)]) (EP X pins σ Q) X.xe s := by
  obtain ⟨cc, h1, h2⟩ := cap_cell I hN hj hV S.fr
  obtain ⟨its, n, e1, o1, z1⟩ := list_items I ha
  obtain ⟨us, m, e2, o2, z2⟩ := list_items I hl
  have dp := hr.dp
  have un := hr.un
  refine sorted_lam_negpair (items := its.toArray) (vs := us.toArray) (bs := bs) (g := fun x => ys.getD x.toNat 0) (by show X.A.depth < recursionLimit; omega) I.nolimit S hvd hyd hyc ho hcd (hbind _ _ _ _) h1 h2 ⟨_, o1, rfl, _, rfl⟩ ⟨_, o2, rfl, _, rfl⟩ (by simpa using e2) z2 (by omega) (fun x hm => ?_) fun out c h' tk kp hD hlen eo => ?_
  · obtain ⟨x0, x1⟩ := inIx_at hx hm
    have w := sizeLine_lt z1
    obtain ⟨t, g⟩ := each_get x.toNat e1 (by omega)
    exact ⟨x0, by omega, t, by simpa using g⟩
  · exact new_list I kp (Nat.le_succ _) hD eo (by rw [List.length_mergeSort]; exact z2) q
theorem run_pair (I : Inv X pins σ H s) (hr : Room k X.A) (S : LamSc sc v y) (hvd : (v == ("__debug__" : Str)) = false) (hyd : (y == ("__debug__" : Str)) = false) (hyc : (y == ("__classdict__" : Str)) = false)
    (ho : s.heap.get? f = some (PySem.W.kla_obj "<lambda>" qual ar (.Tuple [.Subscript (.Name y p1) (.Name v p2) p3, .Name v p5] kk p6) sc (cloFrom X.env.cells sc.names []) pm c' ctv))
    (hcd : s.heap.CodeRec (.ref c') qual) (hbind : ∀ (cl : List (Str × Addr)) (pm cv ctv u : Value), bindArgs (PySem.W.kla_fn "<lambda>" qual ar (.Tuple [.Subscript (.Name y p1) (.Name v p2) p3, .Name v p5] kk p6) sc cl pm cv ctv) ⟨[u], []⟩ = pure [(v, u)])
    (hN : X.N[j]? = some y) (hj : σ[j]? = some (some (.ref a))) (hV : X.env.scope.names.lookup y = some .cell) (ha : H a = some (.lst (ys.map V.int))) (hl : H l = some (.lst (bs.map V.int))) (hx : inIx ys bs = true)
    (q : ∀ p, H p = none → Q (.ref p) (upd H p (.lst ((sortK .pair ys bs).map V.int)))) :
    wpAny (model X.prog X.w) X.A (call (.builtin "sorted") [.ref l] [(Str.ofString "key", .ref f)]) (EP X pins σ Q) X.xe s := by
  obtain ⟨cc, h1, h2⟩ := cap_cell I hN hj hV S.fr
  obtain ⟨its, n, e1, o1, z1⟩ := list_items I ha
  obtain ⟨us, m, e2, o2, z2⟩ := list_items I hl
  have dp := hr.dp
  have un := hr.un
  refine sorted_lam_pair (items := its.toArray) (vs := us.toArray) (bs := bs) (g := fun x => ys.getD x.toNat 0) (by show X.A.depth < recursionLimit; omega) I.nolimit S hvd hyd hyc ho hcd (hbind _ _ _ _) h1 h2 ⟨_, o1, rfl, _, rfl⟩ ⟨_, o2, rfl, _, rfl⟩ (by simpa using e2) z2 (by omega) (fun x hm => ?_) fun out c h' tk kp hD hlen eo => ?_
  · obtain ⟨x0, x1⟩ := inIx_at hx hm
    have w := sizeLine_lt z1
    obtain ⟨t, g⟩ := each_get x.toNat e1 (by omega)
    exact ⟨x0, by omega, t, by simpa using g⟩
  · exact new_list I kp (Nat.le_succ _) hD eo (by rw [List.length_mergeSort]; exact z2) q
/-- over a range -/
theorem run_rangeneg {n : Int} (I : Inv X pins σ H s) (hr : Room k X.A) (S : LamSc sc v y) (hvd : (v == ("__debug__" : Str)) = false) (hyd : (y == ("__debug__" : Str)) = false) (hyc : (y == ("__classdict__" : Str)) = false)
    (ho : s.heap.get? f = some (PySem.W.kla_obj "<lambda>" qual ar (.UnaryOp .USub (.Subscript (.Name y p1) (.Name v p2) p3) p4) sc (cloFrom X.env.cells sc.names []) pm c' ctv))
    (hcd : s.heap.CodeRec (.ref c') qual) (hbind : ∀ (cl : List (Str × Addr)) (pm cv ctv u : Value), bindArgs (PySem.W.kla_fn "<lambda>" qual ar (.UnaryOp .USub (.Subscript (.Name y p1) (.Name v p2) p3) p4) sc cl pm cv ctv) ⟨[u], []⟩ = pure [(v, u)])
    (hN : X.N[j]? = some y) (hj : σ[j]? = some (some (.ref a))) (hV : X.env.scope.names.lookup y = some .cell) (ha : H a = some (.lst (ys.map V.int))) (hl : H l = some (.rng 0 n)) (n0 : 0 ≤ n) (n1 : n ≤ (ys.length : Int)) (hsz : s.heap.objs.size = f + 1)
    (q : ∀ p, H p = none → Q (.ref p) (upd H p (.lst ((sortK .neg ys (rangeL 0 n)).map V.int)))) :
    wpAny (model X.prog X.w) X.A (call (.builtin "sorted") [.ref l] [(Str.ofString "key", .ref f)]) (EP X pins σ Q) X.xe s := by
  obtain ⟨cc, h1, h2⟩ := cap_cell I hN hj hV S.fr
  obtain ⟨its, nn, e1, o1, z1⟩ := list_items I ha
  obtain ⟨t1, t2, t3, o2⟩ := I.hok l _ hl
  have dp := hr.dp
  have un := hr.un
  have zz : (ys.length : Int) ≤ 16777216 := by rw [sizeLine_eq] at z1; omega
  have er : ((List.range n.toNat).map fun i : Nat => (0 : Int) + (i : Int) * 1) = rangeL 0 n := by
    unfold rangeL
    rw [show (n - 0).toNat = n.toNat by omega]
    exact List.map_congr_left fun i _ => by omega
  have lr : (rangeL 0 n).length = n.toNat := by rw [← er, List.length_map, List.length_range]
  refine PySem.W.sorted_range_key (bb := false) (n := n.toNat) (fun x : Int => .int (-(ys.getD x.toNat 0))) (by show X.A.handled = none; exact hr.hd) o2 (small_one (by omega) (by omega) (by omega) (by omega)) (by rw [rangeSize_one]; split <;> omega) (by omega) (by rw [sizeLine_eq]; omega)
    (PySem.W.AllAlike.of fun _ _ => by simp [PySem.W.alike]) (PySem.W.Sortable.others fun _ => ⟨by simp, by simp⟩) (fun x => ?_) (ksk_s1 _ _) (fun _ => ksk_l1 _ _) (fun _ => ksk_t1 _ _)
    (fun u x hR hx hh tk kp => ?_) fun out l2 c hh tk kp fr hD eo => ?_
  · have hd : (PyData.int (-(ys.getD x.toNat 0))).depth = 0 := by simp [PyData.depth]
    omega
  · obtain ⟨tx, rfl⟩ := hR
    rw [er] at hx
    have x01 : 0 ≤ x ∧ x < n := by
      unfold rangeL at hx
      obtain ⟨i, hi, rfl⟩ := List.mem_map.mp hx
      have := List.mem_range.mp hi
      omega
    have w := sizeLine_lt z1
    obtain ⟨t, g⟩ := each_get x.toNat e1 (by omega)
    exact lam_neg (s := { s with heap := hh, toks := tk }) (by show X.A.depth < recursionLimit; omega) (noLimit_keeps I.nolimit kp) S hvd hyd hyc (kp _ _ ho) (hcd.keeps kp) (hbind _ _ _ _) h1 (let ⟨o, g2, hd⟩ := h2; ⟨o, kp _ _ g2, hd⟩) (items := its.toArray) ⟨_, kp _ _ o1, rfl, _, rfl⟩ x01.1 (by omega) (by simpa using g)
  · rw [PySem.W.dataLe_int (β := Int) (fun x => -(ys.getD x.toNat 0)), er] at eo
    have hl2 : s.heap.objs.size ≤ l2 := by rw [hsz]; exact fr f _ ho
    exact new_list I kp hl2 hD eo (by rw [List.length_mergeSort, lr, sizeLine_eq]; omega) q
end
end PV
end

section
set_option maxRecDepth 100000
set_option maxHeartbeats 4000000
namespace PV
open PySem PySem.Spec PyProof.Rows L2 LamX
variable [CodeTabs]
/-- what the makings of lambdas ask of a def: its code object and table -/
structure Maker (X : Cx) (T : List NdefX.NTab) (q : Str) : Prop where
  ex : ∃ (c P : Addr) (nm : Nat → Nat → Str), TabB X.base X.mg c P ∧ X.env.code = .ref c ∧ (P, nm) ∈ T ∧ (∀ i j, nm i j = X.env.qual ++ "<lambda>") ∧ (∀ p ∈ T, p.1 = P → p.2 = nm)
  qu : X.env.qual ++ "<lambda>" = q
section
variable {X : Cx} {y v : Str} {ar : Arguments} {sc : Scope} {bd : Expr} {lp kp p pos : Pos} {t : TA} {es : List Expr} {e : Expr} {T : List NdefX.NTab} {q : Str}
/-- how sorted(l, key=f) runs, f the lambda just made -/
def SortRun (X : Cx) (q : Str) (ar : Arguments) (bd : Expr) (sc : Scope) (r : L2.St → List V → Hp → VK → Prop) : Prop :=
  ∀ (pins : List (Addr × Obj)) (s : Shared) (σ : L2.St) (H : Hp) (vs : List V) (us : List Value) (Q : VK) (f c' : Addr) (pm ctv : Value), Inv X pins σ H s → Vals vs us → s.heap.objs.size = f + 1 → s.heap.CodeRec (.ref c') q →
    s.heap.get? f = some (PySem.W.kla_obj "<lambda>" q ar bd sc (cloFrom X.env.cells sc.names []) pm c' ctv) → r σ vs H Q →
    wpAny (model X.prog X.w) X.A (call (.builtin "sorted") us [(Str.ofString "key", .ref f)]) (EP X pins σ Q) X.xe s
theorem pe_lamSort {r : L2.St → List V → Hp → VK → Prop} (hg : Gl X "sorted") (hm : X.mg "sorted" = none) (M : Maker X T q) (hdf : defaultsOf ar X.env = ([], [])) (hfr : ∀ y ∈ sc.names, y.2 = .free → X.env.scope.names.lookup y.1 = some .cell)
    (run : SortRun X q ar bd sc r) (ha : PA X [e] t) (hs : starEach [e] X.env = [(false, eval e X.env)] := by rfl) :
    PE X (.Call (.Name "sorted" p) [e] [⟨some "key", .Lambda ar bd sc lp, kp⟩] pos) (fun σ H Q => t σ H fun vs H1 => NdefX.TabsN T H1 ∧ ∀ H2, Grew T H1 H2 → r σ vs H2 Q) := by
  obtain ⟨⟨c, P, nm, TB, hc, hmem, hn, hu⟩, rfl⟩ := M
  refine ⟨fun pins s σ H Q I h => ?_⟩
  refine wpAny_Call_Name_kw (ld_blt I hg hm bt_sorted ?_ (by decide) (by decide))
  refine PyProof.Rows.callWith_kw (thn (ha.run pos pins s σ H _ I h) fun us s1 ⟨vs, H1, I1, r1, q1⟩ => ?_) (by rw [hs]; rfl) (by rw [hs]; rfl) rfl rfl
  show wpAny _ _ (evalAll ((do let v ← eval (.Lambda ar bd sc lp) X.env; standAt pos; pure v) :: [])) _ _ s1
  refine wpAny_evalAll_cons (wpAny_bind (lam_made I1 TB hc hmem (hn _ _) hu q1.1 hdf (fun y hy e => I1.ok.has _ (.inl (hfr y hy e))) fun f c' pm ctv H2 s2 I2 G _ hz hcd ho => wpAny_bind (wpAny_standAt (wpAny_pure (wpAny_evalAll_nil ?_)))))
  exact run pins s2 σ H2 vs us Q f c' pm ctv I2 r1 hz hcd ho (q1.2 H2 G)
/-- a list of numbers, an attribute list of numbers in slot j -/
def rSortK (j : Nat) (k : LK) : L2.St → List V → Hp → VK → Prop := fun σ vs H Q => ∃ (l a : Addr) (ys bs : List Int), vs = [.ref l] ∧ σ[j]? = some (some (.ref a)) ∧ H a = some (.lst (ys.map V.int)) ∧ H l = some (.lst (bs.map V.int)) ∧ inIx ys bs = true ∧
  ∀ p, H p = none → Q (.ref p) (upd H p (.lst ((sortK k ys bs).map V.int)))
def rSortR (j : Nat) (k : LK) : L2.St → List V → Hp → VK → Prop := fun σ vs H Q => ∃ (l a : Addr) (ys : List Int) (n : Int), vs = [.ref l] ∧ σ[j]? = some (some (.ref a)) ∧ H a = some (.lst (ys.map V.int)) ∧ H l = some (.rng 0 n) ∧ 0 ≤ n ∧ n ≤ (ys.length : Int) ∧
  ∀ p, H p = none → Q (.ref p) (upd H p (.lst ((sortK k ys (rangeL 0 n)).map V.int)))
section
variable {p1 p2 p3 p4 p5 p6 : Pos} {kk k j : Nat}
theorem sr_negpair (hr : Room k X.A) (S : LamSc sc v y) (hN : X.N[j]? = some y) (hV : X.env.scope.names.lookup y = some .cell)
    (hbind : ∀ (cl : List (Str × Addr)) (pm cv ctv u : Value), bindArgs (PySem.W.kla_fn "<lambda>" q ar (.Tuple [.UnaryOp .USub (.Subscript (.Name y p1) (.Name v p2) p3) p4, .Name v p5] kk p6) sc cl pm cv ctv) ⟨[u], []⟩ = pure [(v, u)])
    (hvd : (v == ("__debug__" : Str)) = false) (hyd : (y == ("__debug__" : Str)) = false) (hyc : (y == ("__classdict__" : Str)) = false) :
    SortRun X q ar (.Tuple [.UnaryOp .USub (.Subscript (.Name y p1) (.Name v p2) p3) p4, .Name v p5] kk p6) sc (rSortK j .negpair) := by
  intro pins s σ H vs us Q f c' pm ctv I rv hz hcd ho h
  obtain ⟨l, a, ys, bs, rfl, hj, ha, hl, hx, q⟩ := h
  obtain rfl := Vals.ref1 rv
  exact run_negpair I hr S hvd hyd hyc ho hcd hbind hN hj hV ha hl hx q
theorem sr_pair (hr : Room k X.A) (S : LamSc sc v y) (hN : X.N[j]? = some y) (hV : X.env.scope.names.lookup y = some .cell)
    (hbind : ∀ (cl : List (Str × Addr)) (pm cv ctv u : Value), bindArgs (PySem.W.kla_fn "<lambda>" q ar (.Tuple [.Subscript (.Name y p1) (.Name v p2) p3, .Name v p5] kk p6) sc cl pm cv ctv) ⟨[u], []⟩ = pure [(v, u)])
    (hvd : (v == ("__debug__" : Str)) = false) (hyd : (y == ("__debug__" : Str)) = false) (hyc : (y == ("__classdict__" : Str)) = false) :
    SortRun X q ar (.Tuple [.Subscript (.Name y p1) (.Name v p2) p3, .Name v p5] kk p6) sc (rSortK j .pair) := by
  intro pins s σ H vs us Q f c' pm ctv I rv hz hcd ho h
  obtain ⟨l, a, ys, bs, rfl, hj, ha, hl, hx, q⟩ := h
  obtain rfl := Vals.ref1 rv
  exact run_pair I hr S hvd hyd hyc ho hcd hbind hN hj hV ha hl hx q
theorem sr_neg (hr : Room k X.A) (S : LamSc sc v y) (hN : X.N[j]? = some y) (hV : X.env.scope.names.lookup y = some .cell)
    (hbind : ∀ (cl : List (Str × Addr)) (pm cv ctv u : Value), bindArgs (PySem.W.kla_fn "<lambda>" q ar (.UnaryOp .USub (.Subscript (.Name y p1) (.Name v p2) p3) p4) sc cl pm cv ctv) ⟨[u], []⟩ = pure [(v, u)])
    (hvd : (v == ("__debug__" : Str)) = false) (hyd : (y == ("__debug__" : Str)) = false) (hyc : (y == ("__classdict__" : Str)) = false) :
    SortRun X q ar (.UnaryOp .USub (.Subscript (.Name y p1) (.Name v p2) p3) p4) sc (rSortR j .neg) := by
  intro pins s σ H vs us Q f c' pm ctv I rv hz hcd ho h
  obtain ⟨l, a, ys, n, rfl, hj, ha, hl, n0, n1, q⟩ := h
  obtain rfl := Vals.ref1 rv
  exact run_rangeneg I hr S hvd hyd hyc ho hcd hbind hN hj hV ha hl n0 n1 hz q
end
theorem cr_range1 : CallR X (.type "range") (fun vs H Q => ∃ i, vs = [V.int i] ∧ ∀ p, H p = none → Q (.ref p) (upd H p (.rng 0 i))) := by
  intro pins s σ H vs us Q I r h
  obtain ⟨i, rfl, q⟩ := h
  obtain ⟨u1, rfl, ri⟩ := vals1 r
  obtain ⟨t, rfl⟩ := ri
  refine call_range_1 ⟨.ref s.heap.objs.size, upd H s.heap.objs.size (.rng 0 i), I.laid (t' := s.toks + 1 + 1) (fun b o e => Heap.get?_push_of_some _ e) (Nat.le_refl _) ?_, rfl, q _ (I.hok.fresh (Nat.le_refl _))⟩
  exact ⟨s.toks, t, s.toks + 1, Heap.get?_push_size _ rfl⟩
end
section
variable {K : PySem.W.Frag} {φ : Act} {F H : Hp} {env : Env} {σ : St}
theorem pval_ints {ds : List D} {is : List Int} {v : V} (s : Same F H) (h : PVal K F H (.lst ds) v) (e : asInts ds = some is) : ∃ a, v = .ref a ∧ H a = some (.lst (is.map V.int)) := by
  rcases h with h | ⟨a, ho, rfl, h1, h2⟩
  · unfold R at h
    obtain ⟨a, vs, rfl, h1, h2⟩ := h
    rw [RL.ints h2 e] at h1
    exact ⟨a, rfl, s _ _ h1⟩
  · unfold ObjR at h2
    split at h2
    · rename_i heq; cases heq; rw [RL.ints h2 e] at h1; exact ⟨a, rfl, h1⟩
    · rename_i heq; cases heq
    · rename_i heq; cases heq
    · exact h2.elim
theorem slot_val (r : Rel K φ F env σ H) {j : Nat} {d : D} (e : (env[j]?).bind Slot.d? = some d) : ∃ v, σ[j]? = some (some v) ∧ PVal K F H d v := by
  cases hs : env[j]? with
  | none => rw [hs] at e; cases e
  | some s =>
    rw [hs] at e
    have e : s.d? = some d := e
    have g := r.slot j s hs
    generalize σ[j]? = o at g
    cases g with
    | un => cases e
    | fz h => cases e; exact ⟨_, rfl, .inl h⟩
    | own h1 h2 h3 h4 => cases e; exact ⟨_, rfl, .inr ⟨_, _, rfl, h1, h2⟩⟩
    | io h1 h2 h3 h4 => cases e; exact ⟨_, rfl, .inr ⟨_, _, rfl, h2, h3⟩⟩
    | ex h1 h2 h3 => cases e
    | tre => cases e
theorem Rel.grew (r : Rel K φ F env σ H) {H2 : Hp} (G : Grew CodeTabs.T H H2) : Rel K φ F env σ H2 := r.grow2 G.keep G.tbl G.tabs
theorem ints_objR (l : List Int) : ObjR K F (.lst (l.map V.int)) (.lst (l.map D.int)) := by
  show RL K F _ _
  induction l with
  | nil => exact RL.nil
  | cons a l ih => exact RL.cons (by unfold R; rfl) ih
theorem rE_sortK {es : EL} {j : Nat} {k : LK} {Q : VK} (h : rE K φ (eSortK k j es) σ H Q) : rA K φ es σ H fun vs H1 => NdefX.TabsN CodeTabs.T H1 ∧ ∀ H2, Grew CodeTabs.T H1 H2 → rSortK j k σ vs H2 Q := by
  obtain ⟨F, env, q, env', r0, e, kq⟩ := h
  unfold eSortK at e
  split at e
  · cases e
  · rename_i rs env1 ea
    refine ⟨F, env, rs, env1, r0, ea, fun F1 H1 xs s1 r1 h1 => ⟨r1.tab, fun H2 G => ?_⟩⟩
    split at e
    · rename_i ds ks e1 e2
      split at e
      · rename_i bs ys eb ey
        split at e
        · rename_i hx
          cases e
          have r2 := r1.grew G
          have pv := r2.peekAll h1 e1
          cases pv with
          | cons g1 g2 =>
            cases g2
            obtain ⟨l, rfl, hl⟩ := pval_ints r2.sub g1 eb
            obtain ⟨v, hv, pv⟩ := slot_val r2 e2
            obtain ⟨a, rfl, ha⟩ := pval_ints r2.sub pv ey
            refine ⟨l, a, ys, bs, rfl, hv, ha, hl, hx, fun p hp => ?_⟩
            obtain ⟨r3, h3⟩ := r2.fresh (d := .lst ((sortK k ys bs).map D.int)) hp (ints_objR _)
            exact kq F1 _ _ s1 r3 h3
        · cases e
      · cases e
    · cases e
/-- range(e) before it -/
theorem rE_sortR {f : E} {j : Nat} {k : LK} {Q : VK} (h : rE K φ (eSortR k j (eCons f eNil)) σ H Q) :
    tCons (tCB (fun vs H Q => ∃ i, vs = [V.int i] ∧ ∀ p, H p = none → Q (.ref p) (upd H p (.rng 0 i))) (rA K φ (eCons f eNil))) L2.tNil σ H fun vs H1 => NdefX.TabsN CodeTabs.T H1 ∧ ∀ H2, Grew CodeTabs.T H1 H2 → rSortR j k σ vs H2 Q := by
  obtain ⟨F, env, q, env', r0, e, kq⟩ := h
  unfold eSortR at e
  split at e
  · cases e
  · rename_i rs env1 ea
    refine ⟨F, env, rs, env1, r0, ea, fun F1 H1 xs s1 r1 h1 => ?_⟩
    split at e
    · rename_i n ks e1 e2
      split at e
      · rename_i ys ey
        split at e
        · rename_i hx
          cases e
          have pv := r1.peekAll h1 e1
          cases pv with
          | cons g1 g2 =>
            cases g2
            rename_i v
            have hv : v = V.int n := by
              rcases g1 with g | ⟨a, ho, rfl, g, o⟩
              · unfold R at g; exact g
              · unfold ObjR at o; split at o <;> first | exact o.elim | (rename_i heq; cases heq)
            refine ⟨n, by rw [hv], fun pr hpr => ?_⟩
            have r2 := r1.laid (ho := .rng 0 n) hpr
            show NdefX.TabsN _ _ ∧ _
            refine ⟨r2.tab, fun H2 G => ?_⟩
            have r3 := r2.grew G
            obtain ⟨w, hw, pw⟩ := slot_val r3 e2
            obtain ⟨a, rfl, ha⟩ := pval_ints r3.sub pw ey
            refine ⟨pr, a, ys, n, rfl, hw, ha, G.keep _ _ upd_same (fun ps z => by cases z), hx.1, hx.2, fun p hp => ?_⟩
            obtain ⟨r4, h4⟩ := r3.fresh (d := .lst ((sortK k ys (rangeL 0 n)).map D.int)) hp (ints_objR _)
            exact kq F1 _ _ s1 r4 h4
        · cases e
      · cases e
    · cases e
end
section
variable {X : Cx} {Γ : Hp → Option Ea → Prop} {ar : Arguments} {sc : Scope} {bd e : Expr} {lp kp p p7 pos pos7 : Pos} {q : Str} {j : Nat} {k : LK} {g : EL} {f : E}
theorem ex_sortK (hg : Gl X "sorted") (hm : X.mg "sorted" = none) (M : Maker X CodeTabs.T q) (run : SortRun X q ar bd sc (rSortK j k)) (ha : AX X Γ [e] g) (hdf : defaultsOf ar X.env = ([], [])) (hfr : ∀ y ∈ sc.names, y.2 = .free → X.env.scope.names.lookup y.1 = some .cell)
    (hs : starEach [e] X.env = [(false, eval e X.env)] := by rfl) : EX X Γ (.Call (.Name "sorted" p) [e] [⟨some "key", .Lambda ar bd sc lp, kp⟩] pos) (eSortK k j g) :=
  ⟨fun φ hφ => PE.weak (pe_lamSort hg hm M hdf hfr run (ha.at' φ hφ) hs) fun _ _ _ h => rE_sortK h⟩
theorem ex_sortR (hg : Gl X "sorted") (hm : X.mg "sorted" = none) (hgr : Gl X "range") (hmr : X.mg "range" = none) (M : Maker X CodeTabs.T q) (run : SortRun X q ar bd sc (rSortR j k)) (ha : EX X Γ e f) (hdf : defaultsOf ar X.env = ([], [])) (hfr : ∀ y ∈ sc.names, y.2 = .free → X.env.scope.names.lookup y.1 = some .cell)
    (hs : starEach [e] X.env = [(false, eval e X.env)] := by rfl) (hs2 : starEach [.Call (.Name "range" p7) [e] [] pos7] X.env = [(false, eval (.Call (.Name "range" p7) [e] [] pos7) X.env)] := by rfl) :
    EX X Γ (.Call (.Name "sorted" p) [.Call (.Name "range" p7) [e] [] pos7] [⟨some "key", .Lambda ar bd sc lp, kp⟩] pos) (eSortR k j (eCons f eNil)) :=
  ⟨fun φ hφ => PE.weak (pe_lamSort hg hm M hdf hfr run (pa_cons (pe_callTy cr_range1 hgr hmr boot_range ((ax_cons ha ax_nil hs).at' φ hφ) (by decide) (by decide) hs) pa_nil hs2) hs2) fun _ _ _ h => rE_sortR h⟩
end
end PV
end

section
set_option maxRecDepth 100000
set_option maxHeartbeats 4000000
namespace PV
open PySem PySem.Spec PyProof.Rows L2 LamX
/-- a def that makes lambdas: its code object stands at c -/
structure FunC (K : PySem.W.Frag) (x qual : Str) (st : Stmt) (f : Addr) (fd : FuncData) (c : Addr) : Prop where
  has : ∃ (ty : Value) (od an : Option Addr) (kw dc mo tu : Value) (sl : Array (Option Value)), fd = PySem.W.fnOf x qual (defArgs st) (defBody st) (defScope st) .none kw dc mo an (.ref c) tu ∧ K.lookup f = some ⟨ty, od, .func fd, sl⟩ ∧ PySem.W.codeIn K (.ref c) qual = true
  kp : PySem.W.keepIn K (.ref f) = true
theorem FunC.toFun {K : PySem.W.Frag} {x qual : Str} {st : Stmt} {f c : Addr} {fd : FuncData} (F : FunC K x qual st f fd c) : Fun K x qual st f fd := by
  obtain ⟨ty, od, an, kw, dc, mo, tu, sl, h1, h2, h3⟩ := F.has
  exact ⟨⟨ty, od, kw, dc, mo, an, .ref c, tu, sl, h1, h2, h3⟩, F.kp⟩
theorem funC_mk {K : PySem.W.Frag} {x qual : Str} {st : Stmt} {f c : Addr} {ty : Value} {od an : Option Addr} {sl : Array (Option Value)} {kw dc mo tu : Value}
    (l : K.lookup f = some ⟨ty, od, .func (PySem.W.fnOf x qual (defArgs st) (defBody st) (defScope st) .none kw dc mo an (.ref c) tu), sl⟩) (h : PySem.W.codeIn K (.ref c) qual = true) (k : PySem.W.keepIn K (.ref f) = true) :
    FunC K x qual st f (PySem.W.fnOf x qual (defArgs st) (defBody st) (defScope st) .none kw dc mo an (.ref c) tu) c := ⟨⟨ty, od, an, kw, dc, mo, tu, sl, rfl, l, h⟩, k⟩
theorem tabIn_of {K : PySem.W.Frag} {x y qual : Str} {st : Stmt} {f c P : Addr} {ty ty2 : Value} {od an od2 : Option Addr} {sl sl2 : Array (Option Value)} {kw dc mo tu : Value} {vs : Array Value} (a : PySem.W.nsIn K mainGlobals x = some (some (.ref f)))
    (l : K.lookup f = some ⟨ty, od, .func (PySem.W.fnOf y qual (defArgs st) (defBody st) (defScope st) .none kw dc mo an (.ref c) tu), sl⟩) (m : K.lookup c = some ⟨ty2, od2, .fields vs, sl2⟩) (v : vs[11]? = some (.ref P)) : PySem.W.tabIn K x = some (c, P) := by
  unfold PySem.W.tabIn
  rw [a]
  simp only [l, m, v]
/-- the name of a def's lambdas -/
def lamNm (qual : Str) : Nat → Nat → Str := fun _ _ => qual ++ ".<locals>." ++ "<lambda>"
variable [CodeTabs]
section
variable {P : Program} {w : World} {K : PySem.W.Frag} {mg : Str → Option Value} {base : Heap}
theorem fn_okC {x qual : Str} {st : Stmt} {f c : Addr} {fd : FuncData} {N ps : List Str} {k : Nat} {cm : CM} {body : S} (Fn : FunC K x qual st f fd c) (S : FnScope N ps (defScope st))
    (hb : ∀ (A : Around) (outer : List PySem.Env) (s : Shared) (H : Hp) (E : XK), Room k (A.deeper (envOfC qual (defScope st) s.heap.objs.size f (.ref c))) →
      SsX (cxOf (L2.CX P w) P w K mg base N qual (defScope st) f (.ref c) A outer s H E) (fun _ _ => True) cm (fun cls d _ H => E cls d H) (defBody st) body) :
    FnOk P w K mg base (L2.CX P w) (k + 1) f fd ps (spF K cm ps.length (fnOf N.length body)) := by
  obtain ⟨ty, od, an, kw, dc, mo, tu, sl, rfl, lk, hcd⟩ := Fn.has
  refine fn_of lk hcd S (fun vs H Q E h => ?_) fun A outer s H vs Q E hr h => fn_read S (hb A outer s H E hr) h
  obtain ⟨F, as, io, res, hn, _, _, ha, _⟩ := h
  rw [← ha.len, hn]
theorem maker_of {qual : Str} {sc : Scope} {f c Pa : Addr} {N : List Str} {A : Around} {outer : List PySem.Env} {s : Shared} {H : Hp} {E : XK} {CX : CXT} (TB : TabB base mg c Pa) (tm : (Pa, lamNm qual) ∈ CodeTabs.T) (tu : ∀ p ∈ CodeTabs.T, p.1 = Pa → p.2 = lamNm qual) :
    Maker (cxOf CX P w K mg base N qual sc f (.ref c) A outer s H E) CodeTabs.T (qual ++ ".<locals>." ++ "<lambda>") :=
  ⟨⟨c, Pa, lamNm qual, TB, rfl, tm, fun _ _ => rfl, tu⟩, rfl⟩
end
omit [CodeTabs] in
theorem lamFree {X : Cx} {sc sc0 : Scope} (h : X.env.scope = sc0) (hd : (sc.names.all fun y => !decide (y.2 = .free) || decide (sc0.names.lookup y.1 = some .cell)) = true) : ∀ y ∈ sc.names, y.2 = .free → X.env.scope.names.lookup y.1 = some .cell := fun y hy e => by
  have q := List.all_eq_true.mp hd y hy
  rw [h]
  simpa [e] using q
/-- H without its tables -/
def noTabs (H : Hp) : Hp := fun b => match H b with
  | some (.tbl _) => none
  | o => o
theorem noTabs_same (H : Hp) : Same (noTabs H) H := fun b o e => by
  unfold noTabs at e
  split at e
  · cases e
  · exact e
theorem noTabs_no (H : Hp) : NoTbl (noTabs H) := fun b ps e => by
  unfold noTabs at e
  split at e
  · cases e
  · rename_i z; exact z ps e
theorem noTabs_at {H : Hp} {b : Addr} {o : HO} (e : H b = some o) (h : ∀ ps, o ≠ .tbl ps) : noTabs H b = some o := by
  unfold noTabs
  split
  · rename_i ps z; rw [e] at z; exact absurd (Option.some.inj z) (h ps)
  · exact e
theorem noTabs_seq {K : PySem.W.Frag} {H : Hp} {a : Addr} {xs : List V} (h : SqL K H a xs) : SqL K (noTabs H) a xs := by
  rcases h with (h | ⟨o, h⟩) | h
  · exact .inl (.inl (noTabs_at h fun _ z => by cases z))
  · exact .inl (.inr ⟨o, noTabs_at h fun _ z => by cases z⟩)
  · exact .inr h
theorem tabsN_nil {T : List NdefX.NTab} {H : Hp} (h : ∀ p ∈ T, H p.1 = some (.tbl #[])) : NdefX.TabsN T H := fun p hp => NdefX.TabN.nil (h p hp)
omit [CodeTabs] in
/-- the end of a law whose defs make lambdas -/
theorem walk_tabs {l : PySem.W.OpenLaw} {most lev : Nat} {pr : Program} {ls : List Str} {XP : (Str → Option Value) → Heap → Prop} {YP : World → Heap → Prop} {dr : DefRec} {K : Params → PySem.W.Frag} {CX : World → CXT} {arg : Str}
    (h1 : l.most = some most) (h2 : most ≤ sizeLine) (h3 : dr.params.defaults = []) (h4 : Room lev callerA) (h5 : ∀ (w : World) (h : Heap), YP w h → (K w.params).In h)
    (F : ∀ (w : World) (mg : Str → Option Value) (fa : Addr) (h : Heap), (K w.params).In h → h.Ns mainGlobals mg →
      (∀ (y : Str) (dd : DefRec) (c P : Addr), (recsOf pr).find? (fun e => e.name == y) = some dd → PySem.W.tabIn (K w.params) y = some (c, P) → PySem.W.CodeHd h c P ∧ h.get? P = some (PySem.W.tabObj #[])) →
      mg dr.name = some (.ref fa) → LawAtS l w (K w.params) (CX w) lev most arg mg fa h)
    (h6 : ∀ (w : World) (H : Hp) (s : Shared) (e : Value) (s' : Shared), CX w [] H s (fun _ _ _ => False) e s' → False) :
    PySem.W.WalkO pr ls XP YP l.row.toRowW dr [] (fun f vs => PySem.call f vs) := by
  refine Att.attach_callB h1 h3 fun w s₀ s₁ mg mb fa o pm cd doc a vs ns Gr Yw ho hd hcd hmg hob hin hle hbi hge => ?_
  have kin := h5 w _ Yw
  obtain ⟨fd, cs, sp, t1, t2, t3, hbi2, hsp, hF⟩ := F w mg fa _ kin Gr.T.g (fun y dd c P hf ht => PySem.W.tab_of Gr.T kin hf ht) hmg
  exact law_callTs kin Gr.T.g Gr.T.b Gr.T.builtins Gr.T.nolimit hge t1 t2 t3 Gr.T.bmain hob hin (Nat.le_trans hle h2) h4 hF hbi2 (fun H hH hS => hsp H a ns hle hbi hH hS) fun H e s' => h6 w H s₁ e s'
end PV
end

section
set_option maxRecDepth 100000
set_option maxHeartbeats 2000000
namespace PV
open PySem PySem.Spec PyProof.Rows L2
variable [CodeTabs]
/-! ### min of rows of whole numbers -/
/-- the rows at v, lists (b false) or tuples -/
def RowAt (K : PySem.W.Frag) (H : Hp) (b : Bool) (v : V) (l : List Int) : Prop := ∃ a, v = .ref a ∧ H a = some (if b = true then .tup (l.map V.int) else .lst (l.map V.int))
inductive RowsAt (K : PySem.W.Frag) (H : Hp) (b : Bool) : List V → List (List Int) → Prop where
  | nil : RowsAt K H b [] []
  | cons {v : V} {l : List Int} {vs : List V} {ls : List (List Int)} : RowAt K H b v l → RowsAt K H b vs ls → RowsAt K H b (v :: vs) (l :: ls)
theorem RowsAt.get {K : PySem.W.Frag} {H : Hp} {b : Bool} : ∀ {vs : List V} {ls : List (List Int)} {i : Nat} {v : V}, RowsAt K H b vs ls → vs[i]? = some v → ∃ l, ls[i]? = some l ∧ RowAt K H b v l
  | _, _, 0, v, .cons h _, e => ⟨_, rfl, by simp at e; subst e; exact h⟩
  | _, _, i + 1, v, .cons _ t, e => by
    obtain ⟨l, e1, e2⟩ := RowsAt.get (i := i) t (by simpa using e)
    exact ⟨l, by simpa using e1, e2⟩
def rMinR (K : PySem.W.Frag) (b : Bool) : List V → Hp → VK → Prop := fun vs H Q => ∃ (a : Addr) (ws : List V) (x : List Int) (xs : List (List Int)), vs = [V.ref a] ∧ SqL K H a ws ∧ RowsAt K H b ws (x :: xs) ∧ ∀ (v : V) (i : Nat), ws[i]? = some v → (x :: xs)[i]? = some (minR x xs) → Q v H
section
variable {X : Cx} {pins : List (Addr × Obj)} {σ : L2.St} {H : Hp} {s : Shared}
theorem ints_reads {h : Heap} : ∀ {l : List Int} {its : List Value}, Vals (l.map V.int) its → ReadsAll h its (l.map PyData.int) []
  | [], _, r => by cases r; exact .nil
  | i :: l, _, r => by
    rw [List.map_cons] at r
    cases r with
    | cons h1 h2 =>
      obtain ⟨t, rfl⟩ := h1
      exact .cons (.int i t) (ints_reads h2)
theorem reads_ints {h : Heap} : ∀ {l m : List Int} {its : List Value} {as : List Addr}, Vals (l.map V.int) its → ReadsAll h its (m.map PyData.int) as → l = m
  | [], m, _, _, r, e => by
    cases r
    cases m with
    | nil => rfl
    | cons a m => cases e
  | i :: l, m, _, _, r, e => by
    rw [List.map_cons] at r
    cases r with
    | cons h1 h2 =>
      obtain ⟨t, rfl⟩ := h1
      cases m with
      | nil => cases e
      | cons a m =>
        rw [List.map_cons] at e
        cases e with
        | cons e1 e2 =>
          cases e1
          rw [reads_ints h2 e2]
theorem row_obj (I : Inv X pins σ H s) {b : Bool} {v : V} {l : List Int} {u : Value} (h : RowAt X.K H b v l) (r : RelV v u) : ∃ (a : Addr) (o : Obj) (its : List Value) (n : Nat), u = .ref a ∧ s.heap.get? a = some o ∧ o.cls = .type (if b = true then "tuple" else "list") ∧ o.data = .seq its.toArray n ∧ Vals (l.map V.int) its := by
  obtain ⟨a, rfl, e⟩ := h
  obtain rfl : u = Value.ref a := r
  cases b with
  | false =>
    obtain ⟨z, its, n, rv, ho⟩ := I.hok a _ e
    exact ⟨a, _, its, n, rfl, ho, rfl, rfl, rv⟩
  | true =>
    obtain ⟨z, its, rv, o, ho, hc, n, hd⟩ := I.hok a _ e
    exact ⟨a, o, its, n, rfl, ho, hc, hd, rv⟩
theorem rows_holdL (I : Inv X pins σ H s) : ∀ {vs : List V} {ls : List (List Int)} {us : List Value}, RowsAt X.K H false vs ls → Vals vs us → PySem.W.HoldAll s.heap us ls
  | _, _, _, .nil, r => by cases r; exact PySem.W.HoldAll.nil
  | _, _, _, .cons h t, r => by
    cases r with
    | cons h1 h2 =>
      obtain ⟨a, o, its, n, rfl, ho, hc, hd, rv⟩ := row_obj I h h1
      exact PySem.W.HoldAll.cons ⟨_, .list ho hc hd (by simpa [PySem.W.Datum.toD] using ints_reads rv)⟩ (rows_holdL I t h2)
theorem rows_holdT (I : Inv X pins σ H s) : ∀ {vs : List V} {ls : List (List Int)} {us : List Value}, RowsAt X.K H true vs ls → Vals vs us → PySem.W.HoldAll s.heap us (ls.map fun l => (⟨l⟩ : PySem.W.Tup Int))
  | _, _, _, .nil, r => by cases r; exact PySem.W.HoldAll.nil
  | _, _, _, .cons h t, r => by
    cases r with
    | cons h1 h2 =>
      obtain ⟨a, o, its, n, rfl, ho, hc, hd, rv⟩ := row_obj I h h1
      exact PySem.W.HoldAll.cons ⟨_, .tuple ho hc hd (by simpa [PySem.W.Datum.toD] using ints_reads rv)⟩ (rows_holdT I t h2)
theorem listLt_rowLt : ∀ a b : List Int, PySem.W.listLt a b = rowLt a b
  | [], [] => rfl
  | [], _ :: _ => rfl
  | _ :: _, [] => rfl
  | x :: xs, y :: ys => by
    unfold PySem.W.listLt rowLt
    rw [listLt_rowLt xs ys]; rfl
theorem minOf_minR (x : List Int) (xs : List (List Int)) : PySem.W.minOf x xs = minR x xs := by
  unfold PySem.W.minOf minR
  induction xs generalizing x with
  | nil => rfl
  | cons y ys ih =>
    rw [List.foldl_cons, List.foldl_cons, show PySem.W.DatumOrd.lt y x = rowLt y x from listLt_rowLt y x]
    exact ih _
theorem minOf_minT (x : List Int) (xs : List (List Int)) : PySem.W.minOf (⟨x⟩ : PySem.W.Tup Int) (xs.map fun l => ⟨l⟩) = ⟨minR x xs⟩ := by
  unfold PySem.W.minOf minR
  induction xs generalizing x with
  | nil => rfl
  | cons y ys ih =>
    rw [List.map_cons, List.foldl_cons, List.foldl_cons, show PySem.W.DatumOrd.lt (⟨y⟩ : PySem.W.Tup Int) ⟨x⟩ = rowLt y x from listLt_rowLt y x]
    split
    · exact ih _
    · exact ih _
theorem vals_back : ∀ {ws : List V} {its : List Value} {i : Nat} {u : Value}, Vals ws its → its[i]? = some u → ∃ w, ws[i]? = some w ∧ RelV w u
  | _, _, 0, u, .cons r _, e => by simp at e; subst e; exact ⟨_, rfl, r⟩
  | _, _, i + 1, u, .cons _ t, e => by
    obtain ⟨w, e1, e2⟩ := vals_back (i := i) t (by simpa using e)
    exact ⟨w, by simpa using e1, e2⟩
theorem cr_minR {b : Bool} (hc : X.calm = true) (hu : X.A.units + 65 < cLine) : CallR X (.builtin "min") (rMinR X.K b) := by
  intro pins s σ H vs us Q I r h
  obtain ⟨a, ws, x, xs, rfl, hs, hrows, q⟩ := h
  obtain ⟨its, rv, hl, _⟩ := I.list hs
  rw [Vals.ref1 r]
  cases b with
  | false =>
    refine PySem.W.min_list_datum (α := List Int) (I.ok.hd hc) hl.isList (by rw [List.toList_toArray]; exact rows_holdL I hrows rv) (by show X.A.units + 1 + (0 + 1) < cLine; omega) fun i v h' tk hi hv hk => ?_
    have hi' : its[i]? = some v := by simpa using hi
    obtain ⟨w, hw, rw_⟩ := vals_back rv hi'
    obtain ⟨l, hl2, hr⟩ := hrows.get hw
    obtain ⟨c, o, jts, n, rfl, ho, hcl, hd, rj⟩ := row_obj I hr rw_
    obtain ⟨as, hv⟩ := hv
    have e : l = PySem.W.minOf x xs := by
      cases hv with
      | list g1 g2 g3 g4 =>
        rw [hk _ _ ho] at g1; cases g1
        rw [hd] at g3; cases g3
        exact reads_ints rj (by simpa [PySem.W.Datum.toD] using g4)
    rw [minOf_minR] at e
    subst e
    exact ⟨w, H, I.kept hk, rw_, q w i hw hl2⟩
  | true =>
    refine PySem.W.min_list_datum (α := PySem.W.Tup Int) (x := ⟨x⟩) (xs := xs.map fun l => ⟨l⟩) (I.ok.hd hc) hl.isList (by rw [List.toList_toArray]; exact rows_holdT I hrows rv) (by show X.A.units + 1 + (0 + 1) < cLine; omega) fun i v h' tk hi hv hk => ?_
    have hi' : its[i]? = some v := by simpa using hi
    obtain ⟨w, hw, rw_⟩ := vals_back rv hi'
    obtain ⟨l, hl2, hr⟩ := hrows.get hw
    obtain ⟨c, o, jts, n, rfl, ho, hcl, hd, rj⟩ := row_obj I hr rw_
    obtain ⟨as, hv⟩ := hv
    rw [minOf_minT] at hv
    have e : l = minR x xs := by
      cases hv with
      | tuple g1 g2 g3 g4 =>
        rw [hk _ _ ho] at g1; cases g1
        rw [hd] at g3; cases g3
        exact reads_ints rj (by simpa [PySem.W.Datum.toD] using g4)
    subst e
    exact ⟨w, H, I.kept hk, rw_, q w i hw hl2⟩
end
section
variable {K : PySem.W.Frag} {F H : Hp}
theorem rows_RL : ∀ {ds : List D} {vs : List V} {ls : List (List Int)}, Same F H → RL K F ds vs → asRowsL ds = some ls → RowsAt K H false vs ls ∧ ds = ls.map fun l => .lst (l.map D.int)
  | [], vs, ls, s, h, e => by unfold RL at h; subst h; cases e; exact ⟨.nil, rfl⟩
  | d :: ds, vs, ls, s, h, e => by
    unfold RL at h
    obtain ⟨v, r, rfl, h1, h2⟩ := h
    unfold asRowsL at e
    split at e
    · rename_i xs ds' heq; cases heq
    · rename_i xs ds' heq
      cases heq
      split at e
      · rename_i i is ei eis
        cases e
        unfold R at h1
        obtain ⟨a, ws, rfl, g1, g2⟩ := h1
        obtain ⟨t, q⟩ := rows_RL s h2 eis
        rw [RL.ints g2 ei] at g1
        exact ⟨.cons ⟨a, rfl, s _ _ g1⟩ t, by rw [List.map_cons, ← q, asInts_inv ei]⟩
      · cases e
    · cases e
theorem rows_RT : ∀ {ds : List D} {vs : List V} {ls : List (List Int)}, Same F H → RL K F ds vs → asRowsT ds = some ls → RowsAt K H true vs ls ∧ ds = ls.map fun l => .tup (l.map D.int)
  | [], vs, ls, s, h, e => by unfold RL at h; subst h; cases e; exact ⟨.nil, rfl⟩
  | d :: ds, vs, ls, s, h, e => by
    unfold RL at h
    obtain ⟨v, r, rfl, h1, h2⟩ := h
    unfold asRowsT at e
    split at e
    · rename_i xs ds' heq; cases heq
    · rename_i xs ds' heq
      cases heq
      split at e
      · rename_i i is ei eis
        cases e
        unfold R at h1
        obtain ⟨a, ws, rfl, g1, g2⟩ := h1
        obtain ⟨t, q⟩ := rows_RT s h2 eis
        rw [RL.ints g2 ei] at g1
        exact ⟨.cons ⟨a, rfl, s _ _ g1⟩ t, by rw [List.map_cons, ← q, asInts_inv ei]⟩
      · cases e
    · cases e
theorem RL.at {ds : List D} {vs : List V} {i : Nat} {v : V} {d : D} (h : RL K F ds vs) (e : vs[i]? = some v) (ed : ds[i]? = some d) : R K F d v := by
  obtain ⟨w, q1, q2⟩ := RL.get h ed
  rw [q1] at e; cases e; exact q2
theorem cd_minR : CallD K (fun xs H Q => rMinR K false xs H Q ∨ rMinR K true xs H Q ∨ rMinV K xs H Q) dMinR := by
  intro F H xs cs res Q s hc e
  unfold dMinR at e
  split at e
  · rename_i z ds
    split at e
    · rename_i x r ei
      cases e
      obtain ⟨v, rfl, hv⟩ := hc.one
      obtain ⟨p, vs, rfl, h1, h2⟩ := hv.lst s
      obtain ⟨h3, h4⟩ := rows_RL s h2 ei
      refine ⟨fun i q => (nomatch q), fun q => .inl ⟨p, vs, x, r, rfl, SqL.of h1, h3, fun v i hi hl => q.1 v ?_⟩⟩
      rw [h4] at h2
      exact RL.at (d := .lst ((minR x r).map D.int)) h2 hi (by rw [List.getElem?_map, hl]; rfl)
    · cases e
  · rename_i z ds
    split at e
    · rename_i x r ei
      cases e
      obtain ⟨v, rfl, hv⟩ := hc.one
      obtain ⟨p, vs, rfl, h1, h2⟩ := hv.lst s
      obtain ⟨h3, h4⟩ := rows_RT s h2 ei
      refine ⟨fun i q => (nomatch q), fun q => .inr (.inl ⟨p, vs, x, r, rfl, SqL.of h1, h3, fun v i hi hl => q.1 v ?_⟩)⟩
      rw [h4] at h2
      exact RL.at (d := .tup ((minR x r).map D.int)) h2 hi (by rw [List.getElem?_map, hl]; rfl)
    · cases e
  · obtain ⟨p, q⟩ := cd_min F H xs _ res Q s hc e
    exact ⟨p, fun z => .inr (.inr (q z))⟩
end
theorem call_minR {X : Cx} (hc : X.calm = true) (hu : X.A.units + 65 < cLine) : CallR X (.builtin "min") (fun xs H Q => rMinR X.K false xs H Q ∨ rMinR X.K true xs H Q ∨ rMinV X.K xs H Q) := CallR.or (cr_minR hc hu) (CallR.or (cr_minR hc hu) (call_minV hc))
end PV
end

section
set_option maxRecDepth 100000
set_option maxHeartbeats 2000000
namespace PV
open PySem PySem.Spec PyProof.Rows L2
variable [CodeTabs]
/-! ### range with a step -/
theorem lenC_le {a b c : Int} (ha : a.natAbs ≤ 1000000) (hb : b.natAbs ≤ 1000000) (h0 : c ≠ 0) : lenC a b c ≤ 2000000 := by
  unfold lenC
  by_cases h : 0 < c
  · rw [if_pos h]
    by_cases h2 : a < b
    · rw [if_pos h2]
      have : (b - a - 1) / c ≤ b - a - 1 := Int.ediv_le_self _ (by omega)
      omega
    · rw [if_neg h2]; omega
  · rw [if_neg h]
    by_cases h2 : b < a
    · rw [if_pos h2]
      have : (a - b - 1) / (-c) ≤ a - b - 1 := Int.ediv_le_self _ (by omega)
      omega
    · rw [if_neg h2]; omega
theorem rgC_of {a b c : Int} (ha : a.natAbs ≤ 1000000) (hb : b.natAbs ≤ 1000000) (hc : c.natAbs ≤ 1000) (h0 : c ≠ 0) : RgC a b c (lenC a b c) := by
  have hl := lenC_le ha hb h0
  have hsz : Builtin.Range.rangeSize a b c = ((lenC a b c : Nat) : Int) := by
    unfold Builtin.Range.rangeSize lenC
    by_cases h : 0 < c
    · rw [if_pos h]
      by_cases h2 : a < b
      · rw [if_pos h2]
        have : 0 ≤ (b - a - 1) / c := Int.ediv_nonneg (by omega) (by omega)
        omega
      · rw [if_neg h2]; rfl
    · rw [if_neg h]
      by_cases h2 : b < a
      · rw [if_pos h2]
        have : 0 ≤ (a - b - 1) / (-c) := Int.ediv_nonneg (by omega) (by omega)
        omega
      · rw [if_neg h2]; rfl
  have fl : ∀ x : Int, x.natAbs ≤ 3000000 → Builtin.Range.rangeFitsLong x = true := fun x hx => by
    unfold Builtin.Range.rangeFitsLong
    simp only [Bool.and_eq_true, decide_eq_true_eq]
    omega
  refine ⟨h0, by omega, ?_, hsz⟩
  unfold Builtin.Range.small
  rw [hsz, fl a (by omega), fl b (by omega), fl c (by omega), fl _ (by omega)]
  simp only [Bool.true_and, Bool.or_eq_true]
  right
  split
  · exact fl _ (by omega)
  · exact fl _ (by omega)
theorem walks_rangeC {K : PySem.W.Frag} {F : Hp} {lo c : Int} {n : Nat} (hl : n ≤ 16777216) : Walks K F (Itc lo c n) (((List.range n).map fun (i : Nat) => lo + (i : Int) * c).map D.int) := by
  have len : (((List.range n).map fun (i : Nat) => lo + (i : Int) * c).map D.int).length = n := by simp
  refine ⟨by rw [len]; exact hl, fun i H s hi => by rw [len] at hi; exact hi, fun i H s hi => by rw [len] at hi; exact hi, fun i H x H' s y hi => ?_⟩
  rw [len] at hi
  obtain ⟨e, ex⟩ := y
  refine ⟨.int (lo + (i : Nat) * c), by simp [hi], .inl ⟨e, ?_⟩⟩
  unfold R; exact ex
section
variable {X : Cx} {Γ : Hp → Option Ea → Prop} {a b c tg e : Expr} {fa fb fc f : E} {p pos : Pos}
theorem ix_range3 (hg : Gl X "range") (hm : X.mg "range" = none) (ha : EX X Γ a fa) (hb : EX X Γ b fb) (hc : EX X Γ c fc)
    (hs : starEach [a, b, c] X.env = (false, eval a X.env) :: starEach [b, c] X.env := by rfl) (hs2 : starEach [b, c] X.env = (false, eval b X.env) :: starEach [c] X.env := by rfl) (hs3 : starEach [c] X.env = [(false, eval c X.env)] := by rfl)
    (hpl : (backTo pos (starEach [b, c] X.env)).any (·.1) = false := by rfl) :
    IX X Γ tg (.Call (.Name "range" p) [a, b, c] [] pos) (iRange3 (eCons fa (eCons fb (eCons fc eNil)))) := ⟨fun φ hφ => by
  refine PI.weak (pi_range3 hg hm ((ax_cons ha (ax_cons hb (ax_cons hc ax_nil (by rw [hs3]; rfl)) hs2) hs).at' φ hφ) hs hpl) fun σ H R ⟨F, env, ds, env', r0, e, k⟩ => ?_
  unfold iRange3 at e
  split at e
  · cases e
  · rename_i rs env1 ea
    refine ⟨F, env, rs, env1, r0, ea, fun F1 H1 vs s1 r1 h1 => ?_⟩
    split at e
    · rename_i i j q eb
      split at e
      · rename_i hb
        cases e
        have pv := r1.peekAll h1 eb
        cases pv with
        | cons g1 pv => cases pv with
          | cons g2 pv => cases pv with
            | cons g3 pv =>
              cases pv
              refine ⟨i, j, q, lenC i j q, by rw [g1.int, g2.int, g3.int], rgC_of hb.1 hb.2.1 hb.2.2.1 hb.2.2.2, k F1 H1 _ s1 r1 ?_⟩
              exact walks_rangeC (Nat.le_trans (lenC_le hb.1 hb.2.1 hb.2.2.2) (by decide))
      · cases e
    · cases e⟩
/-! ### in a tuple of the module -/
/-- the tuple at t, of the module's own -/
def KtOk (K : PySem.W.Frag) (t : Addr) (ns : List Int) : Prop := ∀ H : Hp, SqT K H t (ns.map V.int)
theorem kt_mk {K : PySem.W.Frag} {t : Addr} {od : Option Addr} {sl : Array (Option Value)} {its : Array Value} {n : Nat} {ns : List Int} (x : K.lookup t = some ⟨.type "tuple", od, .seq its n, sl⟩) (hs : its.size ≤ 1000) (v : Vals (ns.map V.int) its.toList) : KtOk K t ns := fun H =>
  .inr ⟨_, its, n, x, rfl, rfl, Nat.le_trans hs (by rw [sizeLine_eq]; decide), v⟩
theorem inV_ints (i : Int) (ns : List Int) : inV (.int i) (ns.map V.int) = ns.contains i := by
  unfold inV
  rw [List.any_map, List.contains_eq_any_beq]
  congr 1
  funext y
  show eqV (.int y) (.int i) = (i == y)
  rw [Bool.eq_iff_iff]
  simp only [eqV, beq_iff_eq]
  exact ⟨fun h => h.symm, fun h => h.symm⟩
def rInC (K : PySem.W.Frag) (neg : Bool) (t : Addr) : V → Hp → VK → Prop := fun x H Q => rIn K neg x (.ref t) H Q
theorem und_inC {K : PySem.W.Frag} {t : Addr} {ns : List Int} {neg : Bool} (T : KtOk K t ns) : UnD K (rInC K neg t) (dInC neg ns) := by
  intro F H x c res Q s hc e
  unfold dInC at e
  split at e
  · rename_i i
    cases e
    refine ⟨fun i q => (nomatch q), fun q => ⟨t, _, rfl, .inr (T H), by rw [hc.int]; rfl, by rw [List.all_map]; exact List.all_eq_true.mpr fun _ _ => rfl, ?_⟩⟩
    rw [hc.int, inV_ints]
    refine q.1 _ ?_
    unfold R
    cases neg <;> rfl
  · cases e
theorem ex_inC {x : Str} {t : Addr} {ns : List Int} (hg : Gl X x) (hm : X.mg x = some (.ref t)) (T : KtOk X.K t ns) (he : EX X Γ e f) (hd : (x == ("__debug__" : Str)) = false := by decide) : EX X Γ (.Compare e [.In] [.Name x p] pos) (eUn (dInC false ns) f) :=
  ⟨fun φ hφ => PE.weak (pe_cmpR op_in_seq (he.at' φ hφ) (pe_glob (v := .ref t) hg hm rfl hd) rfl) fun _ _ _ h => rE_un (und_inC T) h⟩
theorem ex_notInC {x : Str} {t : Addr} {ns : List Int} (hg : Gl X x) (hm : X.mg x = some (.ref t)) (T : KtOk X.K t ns) (he : EX X Γ e f) (hd : (x == ("__debug__" : Str)) = false := by decide) : EX X Γ (.Compare e [.NotIn] [.Name x p] pos) (eUn (dInC true ns) f) :=
  ⟨fun φ hφ => PE.weak (pe_cmpR op_notIn_seq (he.at' φ hφ) (pe_glob (v := .ref t) hg hm rfl hd) rfl) fun _ _ _ h => rE_un (und_inC T) h⟩
theorem tx_inC {x : Str} {t : Addr} {ns : List Int} (hg : Gl X x) (hm : X.mg x = some (.ref t)) (T : KtOk X.K t ns) (he : EX X Γ e f) (hd : (x == ("__debug__" : Str)) = false := by decide) : TX X Γ (.Compare e [.In] [.Name x p] pos) (tB (eUn (dInC false ns) f)) :=
  ⟨fun φ hφ => PT.weak (pt_cmpR op_in_seq (he.at' φ hφ) (pe_glob (v := .ref t) hg hm rfl hd) rfl) fun σ H Q h => by
    obtain q := rT_B h
    exact rE_un (und_inC T) q⟩
theorem tx_notInC {x : Str} {t : Addr} {ns : List Int} (hg : Gl X x) (hm : X.mg x = some (.ref t)) (T : KtOk X.K t ns) (he : EX X Γ e f) (hd : (x == ("__debug__" : Str)) = false := by decide) : TX X Γ (.Compare e [.NotIn] [.Name x p] pos) (tB (eUn (dInC true ns) f)) :=
  ⟨fun φ hφ => PT.weak (pt_cmpR op_notIn_seq (he.at' φ hφ) (pe_glob (v := .ref t) hg hm rfl hd) rfl) fun σ H Q h => by
    obtain q := rT_B h
    exact rE_un (und_inC T) q⟩
end
end PV
end

section
set_option maxRecDepth 100000
namespace PV
open PySem PySem.Spec PyProof.Rows L2
variable [CodeTabs]
section
variable {K : PySem.W.Frag}
theorem opd_or : OpD K (L2.rI0 fun i j => .int (Builtin.bitOr i j)) dOr := by
  intro F H x y c d res Q s hc hd e
  unfold dOr at e
  split at e
  · rename_i a b
    split at e
    · rename_i h
      cases e
      refine ⟨fun i q => (nomatch q), fun q => ⟨_, _, hc.int, hd.int, ?_⟩⟩
      have e1 : Builtin.bitOr a b = ((a.toNat ||| b.toNat : Nat) : Int) := Bits.bitOr_pp h.1 h.2
      show Q (V.int (Builtin.bitOr a b)) H
      rw [e1]; exact q.1 _ (by unfold R; rfl)
    · cases e
  · cases e
end
end PV
end

section
set_option maxRecDepth 100000
namespace PV
open PySem PySem.Spec PyProof.Rows L2
/-! enumerate over a zip of two lists: one turn, one end -/
/-- a zip in any state of its own tuple -/
abbrev ZipG (h : Heap) (q ti to : Addr) (v0 : Value) (fl : Bool) : Prop :=
  h.get? q = some { cls := .type "zip", dict := none, data := .fields #[v0, .bool fl, .bool false, .ref ti, .ref to], slots := #[] }
section
variable {prog : Program} {w : World} {A : Around} {E : Value → Shared → Prop} {s : Shared}
theorem zipG_none {q ti to : Addr} {fl : Bool} {Q : Bool → Shared → Prop} (hq : ZipG s.heap q ti to .none fl) (h : Q true s) : wpAny (model prog w) A (Builtin.SmallTypes.ownedTupleIsFree (.ref q)) Q E s := by
  rw [Builtin.SmallTypes.ownedTupleIsFree]
  exact wpAny_bind (wpAny_field hq rfl (x := .none) rfl (wpAny_pure h))
theorem alive_any {a : Addr} {Q : Option Obj → Shared → Prop} (h : Q (s.heap.get? a) s) : wpAny (model prog w) A (loadIfAlive a) Q E s := fun _ _ _ => h
theorem zipG_gone {q ti to T : Addr} {fl : Bool} {Q : Bool → Shared → Prop} (hq : ZipG s.heap q ti to (rawInt T) fl) (hT : s.heap.get? T = none) (h : Q true s) : wpAny (model prog w) A (Builtin.SmallTypes.ownedTupleIsFree (.ref q)) Q E s := by
  rw [Builtin.SmallTypes.ownedTupleIsFree]
  refine wpAny_bind (wpAny_field hq rfl (x := rawInt T) rfl ?_)
  show wpAny _ _ (loadIfAlive ((T : Int).toNat) >>= _) _ _ s
  rw [Int.toNat_natCast]
  refine wpAny_bind (alive_any ?_)
  rw [hT]
  exact wpAny_pure h
/-- one turn of a zip whose tuple is free -/
theorem zipG_turn {q ti to i1 i2 l1 l2 : Addr} {v0 : Value} {fl : Bool} {k : Nat} {xs ys : Array Value} {x y a b : Value} {Q : Value → Shared → Prop} (D : ZipApart q ti to i1 i2 l1 l2)
    (hq : ZipG s.heap q ti to v0 fl) (hfree : ∀ Q1 : Bool → Shared → Prop, Q1 true s → wpAny (model prog w) A (Builtin.SmallTypes.ownedTupleIsFree (.ref q)) Q1 E s)
    (hti : IsPair s.heap ti (.ref i1) (.ref i2)) (hto : IsPair s.heap to a b)
    (h1 : s.heap.IsListIter i1 l1 k) (h2 : s.heap.IsListIter i2 l2 k) (hl1 : s.heap.IsList l1 xs) (hl2 : s.heap.IsList l2 ys) (hx : xs[k]? = some x) (hy : ys[k]? = some y)
    (hQ : ∀ g, ZipG g q ti to (rawInt s.heap.objs.size) false → IsPair g to x y → g.IsListIter i1 l1 (k + 1) → g.IsListIter i2 l2 (k + 1) → IsPair g s.heap.objs.size x y → g.objs.size = s.heap.objs.size + 1 →
      (∀ c o, c ≠ q → c ≠ to → c ≠ i1 → c ≠ i2 → s.heap.get? c = some o → g.get? c = some o) → Q (.ref s.heap.objs.size) { s with heap := g }) :
    wpAny (model prog w) A (Builtin.«zip.__next__» ⟨[.ref q], []⟩) (fun fin s' => ∃ v, fin = .done (.ret v) ∧ Q v s') E s := by
  show wpAny _ _ (field (.ref q) 2 >>= _) _ _ _
  refine wpAny_bind (wpAny_field hq rfl (x := .bool false) rfl ?_)
  show wpAny _ _ (field (.ref q) 3 >>= _) _ _ _
  refine wpAny_bind (wpAny_field hq rfl (x := .ref ti) rfl ?_)
  refine wpAny_bind (wpAny_seqItems hti rfl ?_)
  show wpAny _ _ (Builtin.SmallTypes.ownedTupleIsFree (.ref q) >>= _) _ _ _
  refine wpAny_bind (hfree _ ?_)
  simp only [if_true]
  refine wpAny_bind (wpAny_rule ?_)
  refine wpAny_bind (wpAny_field hq rfl (x := .ref to) rfl ?_)
  refine wpAny_bind (wpAny_setField_rec hq (by simp) fun g1 q1 b1 => ?_)
  replace q1 : ZipG g1 q ti to .ellipsis fl := q1
  refine wpAny_bind ?_
  simp only [List.forIn_cons, List.forIn_nil, List.zipIdx_cons, List.zipIdx_nil]
  refine wpAny_bind (wpAny_bind (wpAny_onRaise (?_)))
  show wpAny _ _ (Builtin.SmallTypes.nextOf (.ref i1) >>= _) _ _ { s with heap := g1 }
  refine wpAny_bind (wpAny_nextOf_list_item (s := { s with heap := g1 }) (h1.extBut b1.extBut D.i1z) (hl1.extBut b1.extBut D.l1z) hx fun g2 j1 b2 => wpAny_pure ?_)
  have t2 : IsPair g2 to a b := b2.extBut _ _ D.TOi1 (b1.extBut _ _ D.TOz hto)
  refine wpAny_bind (wpAny_seqItems t2 rfl ?_)
  refine wpAny_bind (wpAny_updateSeq_pair t2 fun g3 t3 b3 => ?_)
  replace t3 : IsPair g3 to x b := t3
  refine wpAny_bind (wpAny_letGo (wpAny_pure (?_)))
  refine wpAny_bind (wpAny_bind (wpAny_onRaise (?_)))
  show wpAny _ _ (Builtin.SmallTypes.nextOf (.ref i2) >>= _) _ _ _
  refine wpAny_bind (wpAny_nextOf_list_item (((h2.extBut b1.extBut D.i2z).extBut b2.extBut D.i12.symm).extBut b3.extBut D.TOi2.symm)
    (((hl2.extBut b1.extBut D.l2z).extBut b2.extBut D.l2i1).extBut b3.extBut D.l2TO) hy fun g4 j2 b4 => wpAny_pure ?_)
  have t4 : IsPair g4 to x b := b4.extBut _ _ D.TOi2 t3
  refine wpAny_bind (wpAny_seqItems t4 rfl ?_)
  refine wpAny_bind (wpAny_updateSeq_pair t4 fun g5 t5 b5 => ?_)
  replace t5 : IsPair g5 to x y := t5
  refine wpAny_bind (wpAny_letGo (wpAny_pure (wpAny_pure (?_))))
  refine wpAny_bind (wpAny_seqItems t5 rfl ?_)
  refine wpAny_bind (wpAny_newTuple (?_))
  have sz : g5.objs.size = s.heap.objs.size := by rw [b5.1, b4.1, b3.1, b2.1, b1.1]
  have q5 : ZipG g5 q ti to .ellipsis fl := b5.extBut _ _ D.TOz.symm (b4.extBut _ _ D.i2z.symm (b3.extBut _ _ D.TOz.symm (b2.extBut _ _ D.i1z.symm q1)))
  have k5 : ∀ c o, c ≠ q → c ≠ to → c ≠ i1 → c ≠ i2 → s.heap.get? c = some o → g5.get? c = some o := fun c o c1 c2 c3 c4 e =>
    b5.extBut _ _ c2 (b4.extBut _ _ c4 (b3.extBut _ _ c2 (b2.extBut _ _ c3 (b1.extBut _ _ c1 e))))
  have m1 : g5.IsListIter i1 l1 (k + 1) := ((j1.extBut b3.extBut D.TOi1.symm).extBut b4.extBut D.i12).extBut b5.extBut D.TOi1.symm
  have m2 : g5.IsListIter i2 l2 (k + 1) := j2.extBut b5.extBut D.TOi2.symm
  have ql : q < g5.objs.size := Heap.lt_size q5
  show wpAny _ _ (Builtin.SmallTypes.ownedTupleHandOut (.ref q) (.ref g5.objs.size) >>= _) _ _ _
  refine wpAny_bind ?_
  rw [Builtin.SmallTypes.ownedTupleHandOut]
  have q6 : ZipG (g5.push { cls := .type "tuple", data := .seq #[x, y] }) q ti to .ellipsis fl := Heap.get?_push_of_some _ q5
  refine wpAny_bind (wpAny_setField_rec q6 (by simp) fun g7 q7 b7 => ?_)
  replace q7 : ZipG g7 q ti to (rawInt g5.objs.size) fl := q7
  refine wpAny_setField_rec q7 (by simp) fun g8 q8 b8 => ?_
  replace q8 : ZipG g8 q ti to (rawInt g5.objs.size) false := q8
  have up : ∀ c o, c ≠ q → g5.get? c = some o → g8.get? c = some o := fun c o c1 e => b8.extBut _ _ c1 (b7.extBut _ _ c1 (Heap.get?_push_of_some _ e))
  have t8 : IsPair g8 g5.objs.size x y := b8.extBut _ _ (Nat.ne_of_gt ql) (b7.extBut _ _ (Nat.ne_of_gt ql) (Heap.get?_push_size _ rfl))
  have s8 : g8.objs.size = g5.objs.size + 1 := by rw [b8.1, b7.1, Heap.size_push]
  rw [sz] at q8 t8 s8
  refine wpAny_pure ⟨_, rfl, ?_⟩
  show Q (.ref g5.objs.size) _
  rw [sz]
  exact hQ g8 q8 (up _ _ D.TOz t5) (m1.at fun o e => up _ o D.i1z e) (m2.at fun o e => up _ o D.i2z e) t8 s8 fun c o c1 c2 c3 c4 e => up c o c1 (k5 c o c1 c2 c3 c4 e)
end
end PV
end

section
set_option maxRecDepth 100000
namespace PV
open PySem PySem.Spec PyProof.Rows L2
section
variable {prog : Program} {w : World} {A : Around} {E : Value → Shared → Prop} {s : Shared}
/-- the end of a zip whose tuple is free -/
theorem zipG_end {q ti to i1 i2 l1 l2 : Addr} {v0 : Value} {fl : Bool} {k : Nat} {xs ys : Array Value} {a b : Value} {Q : Fin → Shared → Prop} (hh : A.handled = none) (D : ZipApart q ti to i1 i2 l1 l2)
    (hq : ZipG s.heap q ti to v0 fl) (hfree : ∀ Q1 : Bool → Shared → Prop, Q1 true s → wpAny (model prog w) A (Builtin.SmallTypes.ownedTupleIsFree (.ref q)) Q1 E s)
    (hti : IsPair s.heap ti (.ref i1) (.ref i2)) (hto : IsPair s.heap to a b)
    (h1 : s.heap.IsListIter i1 l1 k) (h2 : s.heap.IsListIter i2 l2 k) (hl1 : s.heap.IsList l1 xs) (hl2 : s.heap.IsList l2 ys) (hend : xs[k]? = none ∨ ys[k]? = none)
    (hE : ∀ g e, (∀ c o, c ≠ q → c ≠ to → c ≠ i1 → c ≠ i2 → s.heap.get? c = some o → g.get? c = some o) → (∃ o, g.get? e = some o ∧ o.cls = .type "StopIteration") → E (.ref e) { s with heap := g }) :
    wpAny (model prog w) A (Builtin.«zip.__next__» ⟨[.ref q], []⟩) Q E s := by
  show wpAny _ _ (field (.ref q) 2 >>= _) _ _ _
  refine wpAny_bind (wpAny_field hq rfl (x := .bool false) rfl ?_)
  show wpAny _ _ (field (.ref q) 3 >>= _) _ _ _
  refine wpAny_bind (wpAny_field hq rfl (x := .ref ti) rfl ?_)
  refine wpAny_bind (wpAny_seqItems hti rfl ?_)
  show wpAny _ _ (Builtin.SmallTypes.ownedTupleIsFree (.ref q) >>= _) _ _ _
  refine wpAny_bind (hfree _ ?_)
  simp only [if_true]
  refine wpAny_bind (wpAny_rule ?_)
  refine wpAny_bind (wpAny_field hq rfl (x := .ref to) rfl ?_)
  refine wpAny_bind (wpAny_setField_rec hq (by simp) fun g1 q1 b1 => ?_)
  replace q1 : ZipG g1 q ti to .ellipsis fl := q1
  refine wpAny_bind ?_
  simp only [List.forIn_cons, List.forIn_nil, List.zipIdx_cons, List.zipIdx_nil]
  refine wpAny_bind (wpAny_bind (wpAny_onRaise (?_)))
  show wpAny _ _ (Builtin.SmallTypes.nextOf (.ref i1) >>= _) _ _ { s with heap := g1 }
  cases hx : xs[k]? with
  | none =>
    refine wpAny_bind (wpAny_nextOf_list_end (s := { s with heap := g1 }) hh (h1.extBut b1.extBut D.i1z) (hl1.extBut b1.extBut D.l1z) hx fun g2 e b2 he => ?_)
    obtain ⟨oe, e1, e2⟩ := he
    have q2 : ZipG g2 q ti to .ellipsis fl := b2 _ _ D.i1z.symm q1
    have ne : e ≠ q := fun x => by subst x; rw [q2] at e1; cases e1; simp at e2
    refine wpAny_setField_rec q2 (by simp) fun g3 _ b3 => hE g3 e (fun c o c1 _ c3 _ x => b3.extBut _ _ c1 (b2 _ _ c3 (b1.extBut _ _ c1 x))) ⟨oe, b3.extBut _ _ ne e1, e2⟩
  | some x =>
    have hy : ys[k]? = none := hend.resolve_left (by rw [hx]; exact fun h => nomatch h)
    refine wpAny_bind (wpAny_nextOf_list_item (s := { s with heap := g1 }) (h1.extBut b1.extBut D.i1z) (hl1.extBut b1.extBut D.l1z) hx fun g2 j1 b2 => wpAny_pure ?_)
    have t2 : IsPair g2 to a b := b2.extBut _ _ D.TOi1 (b1.extBut _ _ D.TOz hto)
    refine wpAny_bind (wpAny_seqItems t2 rfl ?_)
    refine wpAny_bind (wpAny_updateSeq_pair t2 fun g3 t3 b3 => ?_)
    refine wpAny_bind (wpAny_letGo (wpAny_pure (?_)))
    refine wpAny_bind (wpAny_bind (wpAny_onRaise (?_)))
    show wpAny _ _ (Builtin.SmallTypes.nextOf (.ref i2) >>= _) _ _ _
    refine wpAny_bind (wpAny_nextOf_list_end hh (((h2.extBut b1.extBut D.i2z).extBut b2.extBut D.i12.symm).extBut b3.extBut D.TOi2.symm)
      (((hl2.extBut b1.extBut D.l2z).extBut b2.extBut D.l2i1).extBut b3.extBut D.l2TO) hy fun g4 e b4 he => ?_)
    obtain ⟨oe, e1, e2⟩ := he
    have q4 : ZipG g4 q ti to .ellipsis fl := b4 _ _ D.i2z.symm (b3.extBut _ _ D.TOz.symm (b2.extBut _ _ D.i1z.symm q1))
    have ne : e ≠ q := fun x => by subst x; rw [q4] at e1; cases e1; simp at e2
    refine wpAny_setField_rec q4 (by simp) fun g5 _ b5 => hE g5 e (fun c o c1 c2 c3 c4 x => b5.extBut _ _ c1 (b4 _ _ c4 (b3.extBut _ _ c2 (b2.extBut _ _ c3 (b1.extBut _ _ c1 x))))) ⟨oe, b5.extBut _ _ ne e1, e2⟩
/-- a zip between two turns -/
structure ZipS (h : Heap) (q ti to i1 i2 l1 l2 : Addr) (k : Nat) : Prop where
  z : ∃ v0 fl, ZipG h q ti to v0 fl ∧ (v0 = .none ∨ ∃ T : Addr, v0 = rawInt T)
  ti : IsPair h ti (.ref i1) (.ref i2)
  to : ∃ a b, IsPair h to a b
  i1 : h.IsListIter i1 l1 k
  i2 : h.IsListIter i2 l2 k
theorem ZipS.keep {h h' : Heap} {q ti to i1 i2 l1 l2 : Addr} {k : Nat} (Z : ZipS h q ti to i1 i2 l1 l2 k) (hk : ∀ b ∈ [q, ti, to, i1, i2], ∀ o, h.get? b = some o → h'.get? b = some o) : ZipS h' q ti to i1 i2 l1 l2 k := by
  obtain ⟨⟨v0, fl, a, b⟩, c, ⟨x, y, d⟩, e, f⟩ := Z
  exact ⟨⟨v0, fl, hk q (by simp) _ a, b⟩, hk ti (by simp) _ c, ⟨x, y, hk to (by simp) _ d⟩, e.at fun o w => hk i1 (by simp) o w, f.at fun o w => hk i2 (by simp) o w⟩
theorem zipS_turn {q ti to i1 i2 l1 l2 : Addr} {k : Nat} {xs ys : Array Value} {x y : Value} {Q : Value → Shared → Prop} (D : ZipApart q ti to i1 i2 l1 l2) (Z : ZipS s.heap q ti to i1 i2 l1 l2 k)
    (hl1 : s.heap.IsList l1 xs) (hl2 : s.heap.IsList l2 ys) (hx : xs[k]? = some x) (hy : ys[k]? = some y)
    (hQ : ∀ g, ZipS g q ti to i1 i2 l1 l2 (k + 1) → IsPair g s.heap.objs.size x y → g.objs.size = s.heap.objs.size + 1 →
      (∀ c o, c ∉ [q, ti, to, i1, i2] → s.heap.get? c = some o → g.get? c = some o) → Q (.ref s.heap.objs.size) { s with heap := g }) :
    wpAny (model prog w) A (Builtin.SmallTypes.nextOf (.ref q)) Q E s := by
  obtain ⟨⟨v0, fl, z0, z1⟩, z2, ⟨a, b, z3⟩, z4, z5⟩ := Z
  have ty : s.TypeIs (.ref q) "zip" := ⟨_, z0, rfl⟩
  suffices main : ∀ (A' : Around) (P : Value → Shared → Prop), (∀ g, ZipS g q ti to i1 i2 l1 l2 (k + 1) → IsPair g s.heap.objs.size x y → g.objs.size = s.heap.objs.size + 1 →
      (∀ c o, c ∉ [q, ti, to, i1, i2] → s.heap.get? c = some o → g.get? c = some o) → P (.ref s.heap.objs.size) { s with heap := g }) →
      wpAny (model prog w) A' (Builtin.«zip.__next__» ⟨[.ref q], []⟩) (fun fin s' => ∃ v, fin = .done (.ret v) ∧ P v s') E s by
    rw [Builtin.SmallTypes.nextOf]
    refine wpAny_bind (wpAny_callSpecial?_slot (name := Str.ofString "__next__") ty F.slot_zip_next (wpAny_call_entry F.slot_zip_next ty F.entry_zip_next (main _ _ fun g a b c d => ?_) (F.args_zip_next_1 _)))
    exact wpAny_pure (hQ g a b c d)
  intro A' P hP
  have free : (∀ Q1 : Bool → Shared → Prop, Q1 true s → wpAny (model prog w) A' (Builtin.SmallTypes.ownedTupleIsFree (.ref q)) Q1 E s) →
      wpAny (model prog w) A' (Builtin.«zip.__next__» ⟨[.ref q], []⟩) (fun fin s' => ∃ v, fin = .done (.ret v) ∧ P v s') E s := fun hf =>
    zipG_turn D z0 hf z2 z3 z4 z5 hl1 hl2 hx hy fun g a0 a1 a2 a3 a4 a5 a6 =>
      hP g ⟨⟨_, _, a0, .inr ⟨_, rfl⟩⟩, a6 _ _ D.TIz D.TITO D.TIi1 D.TIi2 z2, ⟨_, _, a1⟩, a2, a3⟩ a4 a5 fun c o hc e => a6 c o (fun w => hc (by simp [w])) (fun w => hc (by simp [w])) (fun w => hc (by simp [w])) (fun w => hc (by simp [w])) e
  rcases z1 with rfl | ⟨T, rfl⟩
  · exact free fun Q1 h => zipG_none z0 h
  · cases hT : s.heap.get? T with
    | none => exact free fun Q1 h => zipG_gone z0 hT h
    | some oT =>
      exact zip_next_item_held D z0 hT z2 z4 z5 hl1 hl2 hx hy fun g a0 a2 a3 a4 a5 a6 =>
        hP g ⟨⟨_, _, a0, .inr ⟨_, rfl⟩⟩, a6 _ _ D.TIz D.TIi1 D.TIi2 z2, ⟨_, _, a6 _ _ D.TOz D.TOi1 D.TOi2 z3⟩, a2, a3⟩ a4 a5 fun c o hc e => a6 c o (fun w => hc (by simp [w])) (fun w => hc (by simp [w])) (fun w => hc (by simp [w])) e
theorem zipS_end {q ti to i1 i2 l1 l2 : Addr} {k : Nat} {xs ys : Array Value} {Q : Value → Shared → Prop} (hh : A.handled = none) (D : ZipApart q ti to i1 i2 l1 l2) (Z : ZipS s.heap q ti to i1 i2 l1 l2 k)
    (hl1 : s.heap.IsList l1 xs) (hl2 : s.heap.IsList l2 ys) (hend : xs[k]? = none ∨ ys[k]? = none)
    (hE : ∀ g e, (∀ c o, c ∉ [q, ti, to, i1, i2] → s.heap.get? c = some o → g.get? c = some o) → (∃ o, g.get? e = some o ∧ o.cls = .type "StopIteration") → E (.ref e) { s with heap := g }) :
    wpAny (model prog w) A (Builtin.SmallTypes.nextOf (.ref q)) Q E s := by
  obtain ⟨⟨v0, fl, z0, z1⟩, z2, ⟨a, b, z3⟩, z4, z5⟩ := Z
  have ty : s.TypeIs (.ref q) "zip" := ⟨_, z0, rfl⟩
  have nm : ∀ {g : Heap}, (∀ c o, c ≠ q → c ≠ to → c ≠ i1 → c ≠ i2 → s.heap.get? c = some o → g.get? c = some o) → ∀ c o, c ∉ [q, ti, to, i1, i2] → s.heap.get? c = some o → g.get? c = some o :=
    fun a6 c o hc e => a6 c o (fun w => hc (by simp [w])) (fun w => hc (by simp [w])) (fun w => hc (by simp [w])) (fun w => hc (by simp [w])) e
  rw [Builtin.SmallTypes.nextOf]
  refine wpAny_bind (wpAny_callSpecial?_slot (name := Str.ofString "__next__") ty F.slot_zip_next (wpAny_call_entry F.slot_zip_next ty F.entry_zip_next ?_ (F.args_zip_next_1 _)))
  have free : (∀ Q1 : Bool → Shared → Prop, Q1 true s → wpAny (model prog w) A.in1 (Builtin.SmallTypes.ownedTupleIsFree (.ref q)) Q1 E s) →
      ∀ P, wpAny (model prog w) A.in1 (Builtin.«zip.__next__» ⟨[.ref q], []⟩) P E s := fun hf P =>
    zipG_end hh D z0 hf z2 z3 z4 z5 hl1 hl2 hend fun g e a6 he => hE g e (nm a6) he
  rcases z1 with rfl | ⟨T, rfl⟩
  · exact free (fun Q1 h => zipG_none z0 h) _
  · cases hT : s.heap.get? T with
    | none => exact free (fun Q1 h => zipG_gone z0 hT h) _
    | some oT => exact zip_next_end_held hh D z0 hT z2 z4 z5 hl1 hl2 hend fun g e a6 he => hE g e (nm fun c o c1 _ c3 c4 x => a6 c o c1 c3 c4 x) he
end
end PV
end

section
set_option maxRecDepth 100000
namespace PV
open PySem PySem.Spec PyProof.Rows L2
section
variable {prog : Program} {w : World} {A : Around} {E : Value → Shared → Prop} {s : Shared}
/-- a turn of enumerate, the walk inside being told by what it does -/
theorem enz_next {e q : Addr} {c : Int} {old : Value} {N : Value → Heap → Prop} {Q : Value → Shared → Prop} (he : IsEnum s.heap e q c old)
    (hin : ∀ Q1 : Value → Shared → Prop, (∀ x g, N x g → Q1 x { s with heap := g }) → wpAny (model prog w) A (Builtin.SmallTypes.nextOf (.ref q)) Q1 E s)
    (hN : ∀ x g, N x g → IsEnum g e q c old)
    (hQ : ∀ x g g', N x g → IsEnumOut g' e q (c + 1) x g.objs.size → g'.get? g.objs.size = some { cls := .type "tuple", data := .seq #[.int c s.toks, x] } → g'.objs.size = g.objs.size + 1 →
      (∀ b o, b ≠ e → g.get? b = some o → g'.get? b = some o) → Q (.ref g.objs.size) { s with heap := g', toks := s.toks + 1 }) :
    wpAny (model prog w) A (Builtin.«enumerate.__next__» ⟨[.ref e], []⟩) (fun fin s' => ∃ v, fin = .done (.ret v) ∧ Q v s') E s := by
  obtain ⟨hp, gl, d, tk, os⟩ := s
  show wpAny _ _ (field (.ref e) 2 >>= _) _ _ _
  refine wpAny_bind (wpAny_field he rfl (x := .ref q) rfl ?_)
  refine wpAny_bind (hin _ fun x g hx => ?_)
  have e1 := hN x g hx
  show wpAny _ _ (field (.ref e) 3 >>= _) _ _ ⟨g, gl, d, tk, os⟩
  refine wpAny_bind (wpAny_field e1 rfl (x := rawInt c) rfl ?_)
  show wpAny _ _ (field (.ref e) 4 >>= _) _ _ ⟨g, gl, d, tk, os⟩
  refine wpAny_bind (wpAny_field e1 rfl (x := .none) rfl ?_)
  show wpAny _ _ (mkInt c >>= _) _ _ ⟨g, gl, d, tk, os⟩
  refine wpAny_bind (wpAny_mkInt ?_)
  show wpAny _ _ (setField (.ref e) 3 (rawInt (c + 1)) >>= _) _ _ ⟨g, gl, d, tk + 1, os⟩
  refine wpAny_bind (wpAny_setField_rec e1 (by simp) fun g2 e2 b2 => ?_)
  replace b2 : Heap.SameBut e g g2 := b2
  replace e2 : IsEnum g2 e q (c + 1) old := e2
  show wpAny _ _ (setField (.ref e) 4 .none >>= _) _ _ ⟨g2, gl, d, tk + 1, os⟩
  refine wpAny_bind (wpAny_setField_rec e2 (by simp) fun g3 e3 b3 => ?_)
  replace b3 : Heap.SameBut e g2 g3 := b3
  replace e3 : IsEnum g3 e q (c + 1) old := e3
  show wpAny _ _ (newTuple [.int c tk, x] >>= _) _ _ ⟨g3, gl, d, tk + 1, os⟩
  refine wpAny_bind (wpAny_newTuple (?_))
  have e4 : IsEnum (g3.push { cls := .type "tuple", data := .seq #[.int c tk, x] }) e q (c + 1) old := Heap.get?_push_of_some _ e3
  generalize hg4 : g3.push { cls := .type "tuple", data := .seq #[.int c tk, x] } = g4 at e4
  have sz : g3.objs.size = g.objs.size := by rw [b3.1, b2.1]
  have el : e < g.objs.size := Heap.lt_size e1
  have t4 : g4.get? g.objs.size = some { cls := .type "tuple", data := .seq #[.int c tk, x] } := by rw [← hg4, ← sz]; exact Heap.get?_push_size _ rfl
  have s4 : g4.objs.size = g.objs.size + 1 := by rw [← hg4, Heap.size_push, sz]
  have k4 : ∀ b o, b ≠ e → g.get? b = some o → g4.get? b = some o := fun b o hb h => by
    rw [← hg4]; exact Heap.get?_push_of_some _ (b3.extBut b o hb (b2.extBut b o hb h))
  show wpAny _ _ (Builtin.SmallTypes.ownedTupleIsFree (.ref e) >>= _) _ _ ⟨g4, gl, d, tk + 1, os⟩
  rw [sz]
  clear hg4 e3 b3 e2 b2 sz g3 g2
  refine wpAny_bind ?_
  rw [Builtin.SmallTypes.ownedTupleIsFree]
  refine wpAny_bind (wpAny_field e4 rfl (x := .none) rfl (wpAny_pure (?_)))
  simp only [if_true]
  refine wpAny_bind (wpAny_rule ?_)
  refine wpAny_bind (wpAny_field e4 rfl (x := old) rfl ?_)
  refine wpAny_bind (wpAny_setField_rec e4 (by simp) fun g5 e5 b5 => ?_)
  replace b5 : Heap.SameBut e g4 g5 := b5
  replace e5 : IsEnum g5 e q (c + 1) x := e5
  show wpAny _ _ (Builtin.SmallTypes.ownedTupleHandOut (.ref e) (.ref g.objs.size) >>= _) _ _ ⟨g5, gl, d, tk + 1, os⟩
  refine wpAny_bind ?_
  rw [Builtin.SmallTypes.ownedTupleHandOut]
  refine wpAny_bind (wpAny_setField_rec e5 (by simp) fun g6 e6 b6 => ?_)
  replace b6 : Heap.SameBut e g5 g6 := b6
  replace e6 : IsEnumOut g6 e q (c + 1) x g.objs.size := e6
  refine wpAny_setField_rec e6 (by simp) fun g7 e7 b7 => ?_
  replace b7 : Heap.SameBut e g6 g7 := b7
  replace e7 : IsEnumOut g7 e q (c + 1) x g.objs.size := e7
  refine wpAny_bind (wpAny_letGo (wpAny_pure ⟨_, rfl, hQ x g g7 hx e7 ?_ ?_ ?_⟩))
  · exact b7.extBut _ _ (Nat.ne_of_gt el) (b6.extBut _ _ (Nat.ne_of_gt el) (b5.extBut _ _ (Nat.ne_of_gt el) t4))
  · rw [b7.1, b6.1, b5.1, s4]
  · exact fun b o hb h => b7.extBut b o hb (b6.extBut b o hb (b5.extBut b o hb (k4 b o hb h)))
theorem enz_item {e q : Addr} {c : Int} {old : Value} {N : Value → Heap → Prop} {Q : Option Value → Shared → Prop} (he : IsEnum s.heap e q c old)
    (hin : ∀ (A' : Around) (Q1 : Value → Shared → Prop), (∀ x g, N x g → Q1 x { s with heap := g }) → wpAny (model prog w) A' (Builtin.SmallTypes.nextOf (.ref q)) Q1 (fun _ _ => False) s)
    (hN : ∀ x g, N x g → IsEnum g e q c old)
    (hQ : ∀ x g g', N x g → IsEnumOut g' e q (c + 1) x g.objs.size → g'.get? g.objs.size = some { cls := .type "tuple", data := .seq #[.int c s.toks, x] } → g'.objs.size = g.objs.size + 1 →
      (∀ b o, b ≠ e → g.get? b = some o → g'.get? b = some o) → Q (some (.ref g.objs.size)) { s with heap := g', toks := s.toks + 1 }) :
    wpAny (model prog w) A (pyNext (.ref e)) Q E s := by
  have ty : s.TypeIs (.ref e) "enumerate" := ⟨_, he, rfl⟩
  rw [pyNext]
  refine wpAny_bind (wpAny_attempt (wpAny_callSpecial?_slot (name := Str.ofString "__next__") ty F.slot_enumerate_next (wpAny_call_entry F.slot_enumerate_next ty F.entry_enumerate_next ?_ (F.args_enumerate_next_1 _))))
  refine enz_next he (fun Q1 h => wpAny_mono (hin _ Q1 h) (fun _ _ a => a) fun _ _ a => a.elim) hN fun x g g' a b c d k => wpAny_pure (hQ x g g' a b c d k)
theorem enz_end {e q : Addr} {c : Int} {old : Value} {N : Heap → Prop} {Q : Option Value → Shared → Prop} (he : IsEnum s.heap e q c old)
    (hin : ∀ (Q1 : Value → Shared → Prop) (E1 : Value → Shared → Prop), (∀ g x, N g → (∃ o, g.get? x = some o ∧ o.cls = .type "StopIteration") → E1 (.ref x) { s with heap := g }) → wpAny (model prog w) A.in1 (Builtin.SmallTypes.nextOf (.ref q)) Q1 E1 s)
    (hQ : ∀ g, N g → Q none { s with heap := g }) : wpAny (model prog w) A (pyNext (.ref e)) Q E s := by
  have ty : s.TypeIs (.ref e) "enumerate" := ⟨_, he, rfl⟩
  rw [pyNext]
  refine wpAny_bind (wpAny_attempt (wpAny_callSpecial?_slot (name := Str.ofString "__next__") ty F.slot_enumerate_next (wpAny_call_entry F.slot_enumerate_next ty F.entry_enumerate_next ?_ (F.args_enumerate_next_1 _))))
  show wpAny _ _ (field (.ref e) 2 >>= _) _ _ _
  refine wpAny_bind (wpAny_field he rfl (x := .ref q) rfl ?_)
  refine wpAny_bind (hin _ _ fun g x hg hx => ?_)
  obtain ⟨o, o1, o2⟩ := hx
  refine wpAny_bind (wpAny_isInstance (T := "StopIteration") (b := true) ⟨o, o1, o2⟩ isSubtype_stop ?_)
  exact wpAny_pure (hQ _ hg)
end
/-! enumerate(z) -/
theorem meets_enz (q ti to : Addr) (v0 : Value) :
    Meets (Builtin.«enumerate.__new__» ⟨[.type "enumerate", .ref q], []⟩) (fun _ R s => IsZip s.heap q ti to v0 ∧
      R (.ok (.ret (.ref s.heap.objs.size))) { s with heap := s.heap.push { cls := .type "enumerate", data := .fields #[.none, .bool false, .ref q, rawInt 0, .none, .none] } }) :=
  .of_wp fun prog w A R s h => by
    obtain ⟨hp, gl, d, tk, os⟩ := s; obtain ⟨hz, h⟩ := h
    have hsub := sub_enumerate
    have hz' : IsZip (Shared.heap ⟨hp, gl, d, tk, os⟩) q ti to v0 := hz
    wp_walk using AutoSeq1.wpAny_loadPart' hz, wpAny_pyIter_zip hz'
    refine wpAny_stack_any fun st => wpAny_pure ?_
    split
    · rename_i c _ _ _ _ _
      cases (c == Value.type "enumerate")
      · wp_walk using AutoSeq1.wpAny_loadPart' hz, wpAny_pyIter_zip hz'
        exact ⟨_, rfl, h⟩
      · wp_walk using AutoSeq1.wpAny_loadPart' hz, wpAny_pyIter_zip hz'
        exact ⟨_, rfl, h⟩
    · wp_walk using AutoSeq1.wpAny_loadPart' hz, wpAny_pyIter_zip hz'
      exact ⟨_, rfl, h⟩
section
variable {prog : Program} {w : World} {A : Around} {E : Value → Shared → Prop} {s : Shared}
theorem call_enz {q ti to : Addr} {v0 : Value} {Q : Value → Shared → Prop} (hz : IsZip s.heap q ti to v0)
    (h : ∀ g, IsEnum g s.heap.objs.size q 0 .none → g.objs.size = s.heap.objs.size + 1 → (∀ b o, s.heap.get? b = some o → g.get? b = some o) → Q (.ref s.heap.objs.size) { s with heap := g }) :
    wpAny (model prog w) A (call (.type "enumerate") [.ref q]) Q E s := by
  refine callType_new F.called_enumerate (by decide) (F.typeCall_enumerate_1 _) (F.newCall_enumerate_1 _) (fun obj => F.args_object_init_2 obj _) F.entry_enumerate_new (meets_enz q ti to v0) ⟨hz, ?_⟩
  have he : IsEnum (s.heap.push { cls := .type "enumerate", data := .fields #[.none, .bool false, .ref q, rawInt 0, .none, .none] }) s.heap.objs.size q 0 .none := Heap.get?_push_size _ rfl
  exact ⟨⟨_, he, rfl⟩, h _ he (Heap.size_push ..) fun b o x => Heap.get?_push_of_some _ x⟩
end
end PV
end

section
set_option maxRecDepth 100000
set_option maxHeartbeats 2000000
namespace PV
open PySem PySem.Spec PyProof.Rows L2
/-- the lists at a and b side by side, each pair with its number -/
def ItNz (K : PySem.W.Frag) (a b : Addr) : It :=
  ⟨fun i H => ∃ (xs ys : List V) (x y : V), SqL K H a xs ∧ SqL K H b ys ∧ xs[i]? = some x ∧ ys[i]? = some y,
    fun i H v H' => ∃ T U x y, v = .ref U ∧ H T = none ∧ H U = none ∧ U ≠ T ∧ H' = upd (upd H T (.tup [x, y])) U (.tup [.int (i : Nat), .ref T]) ∧ (∀ xs, SqL K H a xs → xs[i]? = some x) ∧ ∀ ys, SqL K H b ys → ys[i]? = some y,
    fun i H => ∃ xs ys : List V, SqL K H a xs ∧ SqL K H b ys ∧ (xs.length ≤ i ∨ ys.length ≤ i)⟩
theorem FpOk.at {X : Cx} {pins : List (Addr × Obj)} {H H' : Hp} {b : Addr} (f : FpOk X pins H b) (h : H' b = none) : FpOk X pins H' b := ⟨h, f.2⟩
theorem turn_nz {P : Program} {w : World} {K : PySem.W.Frag} {elts : List Expr} {kk : Nat} {tpos : Pos} {a b e q ti to i1 i2 : Addr} (D : ZipApart q ti to i1 i2 a b) (he : e ∉ [q, ti, to, i1, i2]) :
    Turn P w K (.Tuple elts kk tpos) (ItNz K a b) [e, q, ti, to, i1, i2] e (fun i h => (∃ old, IsEnum h e q ((i : Nat) : Int) old) ∧ ZipS h q ti to i1 i2 a b i) where
  mem := by simp
  obj := fun i h st c hc => by
    obtain ⟨⟨old, h0⟩, ⟨⟨v0, fl, hz, _⟩, hti, ⟨x, y, hto⟩, ⟨o1, e1, _, d1⟩, ⟨o2, e2, _, d2⟩⟩⟩ := st
    have e' : c = e ∨ c = q ∨ c = ti ∨ c = to ∨ c = i1 ∨ c = i2 := by simpa using hc
    rcases e' with r | r | r | r | r | r <;> rw [r]
    · exact ⟨_, h0, fun v q => nomatch q⟩
    · exact ⟨_, hz, fun v q => nomatch q⟩
    · exact ⟨_, hti, fun v q => nomatch q⟩
    · exact ⟨_, hto, fun v q => nomatch q⟩
    · exact ⟨o1, e1, fun v q => by rw [d1] at q; cases q⟩
    · exact ⟨o2, e2, fun v q => by rw [d2] at q; cases q⟩
  keep := fun i h h' st k => ⟨let ⟨old, h0⟩ := st.1; ⟨old, k e (by simp) _ h0⟩, st.2.keep fun b hb o => k b (List.mem_cons_of_mem _ hb) o⟩
  item := by
    intro X hP hw hK hc i pins s σ H E I hf st hg
    subst hP hw hK
    obtain ⟨⟨old, h0⟩, Z⟩ := st
    obtain ⟨xs, ys, x, y, hqx, hqy, hx, hy⟩ := hg
    obtain ⟨its, rv, p, _⟩ := I.list hqx
    obtain ⟨its2, rv2, p2, _⟩ := I.list hqy
    obtain ⟨u, hu, ru⟩ := rv.get hx
    obtain ⟨u2, hu2, ru2⟩ := rv2.get hy
    have el : e < s.heap.objs.size := Heap.lt_size h0
    have hlt : ∀ c ∈ [e, q, ti, to, i1, i2], c < s.heap.objs.size := fun c hc => by
      obtain ⟨⟨v0, fl, z0, _⟩, z2, ⟨_, _, z3⟩, ⟨_, z4, _⟩, ⟨_, z5, _⟩⟩ := Z
      have e' : c = e ∨ c = q ∨ c = ti ∨ c = to ∨ c = i1 ∨ c = i2 := by simpa using hc
      rcases e' with r | r | r | r | r | r <;> rw [r]
      · exact el
      · exact Heap.lt_size z0
      · exact Heap.lt_size z2
      · exact Heap.lt_size z3
      · exact Heap.lt_size z4
      · exact Heap.lt_size z5
    refine enz_item (N := fun v g => v = .ref s.heap.objs.size ∧ ZipS g q ti to i1 i2 a b (i + 1) ∧ IsPair g s.heap.objs.size u u2 ∧ g.objs.size = s.heap.objs.size + 1 ∧
      ∀ c o, c ∉ [q, ti, to, i1, i2] → s.heap.get? c = some o → g.get? c = some o) h0
      (fun A' Q1 h => zipS_turn D Z p.isList p2.isList (by simpa using hu) (by simpa using hu2) fun g z1 z2 z3 z4 => h _ g ⟨rfl, z1, z2, z3, z4⟩) (fun v g h => h.2.2.2.2 e _ he h0) ?_
    rintro v g g' ⟨rfl, z1, z2, z3, z4⟩ ho hT hsz hk
    refine ⟨_, rfl, wpAny_letOwnedTupleGo_enum (s := { s with heap := g', toks := s.toks + 1 }) ho fun g'' h2 sb => ?_⟩
    replace sb : Heap.SameBut e g' g'' := sb
    have nT : s.heap.objs.size ≠ e := Nat.ne_of_gt el
    have nU : g.objs.size ≠ e := Nat.ne_of_gt (by rw [z3]; exact Nat.lt_succ_of_lt el)
    have up : ∀ c o, c ≠ e → g.get? c = some o → g''.get? c = some o := fun c o hc h => (sb.2 c hc).trans (hk c o hc h)
    have T2 : g''.get? s.heap.objs.size = some { cls := .type "tuple", data := .seq #[u, u2] } := up _ _ nT z2
    have U2 : g''.get? g.objs.size = some { cls := .type "tuple", data := .seq #[.int i s.toks, .ref s.heap.objs.size] } := (sb.2 _ nU).trans hT
    have new1 : ObjOk X.prog X.w (upd H s.heap.objs.size (.tup [x, y])) g s.heap.objs.size (.tup [x, y]) :=
      ⟨by show 2 ≤ sizeLine; decide, [u, u2], .cons ru (.cons ru2 .nil), ⟨_, z2, rfl, _, rfl⟩⟩
    have I1 : Inv X pins σ (upd H s.heap.objs.size (.tup [x, y])) { s with heap := g, toks := s.toks } :=
      I.turnedNew (ch := [q, ti, to, i1, i2]) (fun c o hb h => z4 c o hb h) (fun c hc => hf c (List.mem_cons_of_mem _ hc)) (Nat.le_refl _) new1
    have HU : (upd H s.heap.objs.size (.tup [x, y])) g.objs.size = none := I1.hok.fresh (Nat.le_refl _)
    have HT : H s.heap.objs.size = none := I.hok.fresh (Nat.le_refl _)
    have UT : g.objs.size ≠ s.heap.objs.size := by rw [z3]; exact Nat.succ_ne_self _
    have new2 : ObjOk X.prog X.w (upd (upd H s.heap.objs.size (.tup [x, y])) g.objs.size (.tup [.int (i : Nat), .ref s.heap.objs.size])) g'' g.objs.size (.tup [.int (i : Nat), .ref s.heap.objs.size]) :=
      ⟨by show 2 ≤ sizeLine; decide, [.int i s.toks, .ref s.heap.objs.size], .cons ⟨_, rfl⟩ (.cons rfl .nil), ⟨_, U2, rfl, _, rfl⟩⟩
    have He : (upd H s.heap.objs.size (.tup [x, y])) e = none := by rw [upd_ne (Ne.symm nT)]; exact (hf e (by simp)).1
    have I2 : Inv X pins σ (upd (upd H s.heap.objs.size (.tup [x, y])) g.objs.size (.tup [.int (i : Nat), .ref s.heap.objs.size])) { s with heap := g'', toks := s.toks + 1 } :=
      I1.turnedNew (t' := s.toks + 1) (ch := [e]) (fun c o hb h => up c o (fun r => hb (by simp [r])) h) (fun c hc => by rw [List.mem_singleton.1 hc]; exact FpOk.at (hf e (by simp)) He) (Nat.le_refl _) new2
    refine ⟨.ref g.objs.size, _, I2, rfl, ⟨_, _, x, y, rfl, HT, by rw [← HU, upd_ne UT], UT, rfl, fun l hl => by rw [I.list_inj hl hqx]; exact hx, fun l hl => by rw [I.list_inj hl hqy]; exact hy⟩, ⟨⟨.ref s.heap.objs.size, ?_⟩, ?_⟩, fun c hcm => ?_⟩
    · have e1 : ((i + 1 : Nat) : Int) = (i : Int) + 1 := by omega
      rw [e1]; exact h2
    · exact z1.keep fun c hc o h => up c o (fun r => he (r ▸ hc)) h
    · have := hlt c hcm
      rw [upd_ne (Nat.ne_of_lt (by rw [z3]; exact Nat.lt_succ_of_lt this)), upd_ne (Nat.ne_of_lt this)]
      exact (hf c hcm).1
  done := by
    intro X hP hw hK hc i pins s σ H E I hf st hg
    subst hP hw hK
    obtain ⟨⟨old, h0⟩, Z⟩ := st
    obtain ⟨xs, ys, hqx, hqy, hend⟩ := hg
    obtain ⟨its, rv, p, _⟩ := I.list hqx
    obtain ⟨its2, rv2, p2, _⟩ := I.list hqy
    have l1 := rv.length
    have l2 := rv2.length
    have hn : its.toArray[i]? = none ∨ its2.toArray[i]? = none := hend.imp (fun q => by simp; omega) fun q => by simp; omega
    exact enz_end (N := fun g => ∀ c o, c ∉ [q, ti, to, i1, i2] → s.heap.get? c = some o → g.get? c = some o) h0
      (fun Q1 E1 h => zipS_end (I.ok.hd hc) D Z p.isList p2.isList hn fun g e' k hs => h g e' k hs)
      fun g k => ⟨rfl, I.turnedL (t' := s.toks) (ch := [q, ti, to, i1, i2]) (fun c o hb h => k c o hb h) fun c hc => hf c (List.mem_cons_of_mem _ hc)⟩
  self := fun A i s Q E st h => let ⟨_, h0⟩ := st.1; wpAny_pyIter_enum h0 h
end PV
end

section
set_option maxRecDepth 100000
set_option maxHeartbeats 2000000
namespace PV
open PySem PySem.Spec PyProof.Rows L2
def iNz (K : PySem.W.Frag) (ta : TA) : TI := fun σ H R => ta σ H fun vs H1 => ∃ a b xs ys, vs = [.ref a, .ref b] ∧ SqL K H1 a xs ∧ SqL K H1 b ys ∧ R (ItNz K a b) H1
theorem pi_nz {X : Cx} {e e2 : Expr} {ta : TA} {p p2 pos pos2 tpos : Pos} {elts : List Expr} {kk : Nat} (hg : Gl X "enumerate") (hm : X.mg "enumerate" = none) (hgz : Gl X "zip") (hmz : X.mg "zip" = none) (ha : PA X [e, e2] ta)
    (hs : starEach [e, e2] X.env = (false, eval e X.env) :: starEach [e2] X.env := by rfl) (hpl : (backTo pos2 (starEach [e2] X.env)).any (·.1) = false := by rfl)
    (hs1 : starEach [.Call (.Name "zip" p2) [e, e2] [] pos2] X.env = [(false, eval (.Call (.Name "zip" p2) [e, e2] [] pos2) X.env)] := by rfl) :
    PI X (.Tuple elts kk tpos) (.Call (.Name "enumerate" p) [.Call (.Name "zip" p2) [e, e2] [] pos2] [] pos) (iNz X.K ta) := by
  refine ⟨fun pins s σ H R I h => ?_⟩
  refine Call_ (ld_blt I hg hm boot_enumerate (PyProof.Rows.callWith_type1 ?_ hs1 rfl))
  rw [hs1]
  refine Calls.spliced_cons ?_
  refine Call_ (ld_blt I hgz hmz PyProof.Rows.boot_zip (PyProof.Rows.callWith_type1 (thn (ha.run pos2 pins s σ H _ I h) fun us s1 ⟨vs, H1, I1, r1, q1⟩ => ?_) hs hpl))
  obtain ⟨a, b, xs, ys, ex, hqx, hqy, hR⟩ := q1
  subst ex
  cases r1 with
  | cons r rr =>
    cases rr with
    | cons r' rr =>
      cases rr
      cases r
      cases r'
      obtain ⟨its, rv, m1, _⟩ := I1.list hqx
      obtain ⟨its2, rv2, m2, _⟩ := I1.list hqy
      refine call_zip_2 m1.isList m2.isList fun h' hz hTI hTO h1 h2 hsz hk => ?_
      have la : a < s1.heap.objs.size := m1.lt
      have lb : b < s1.heap.objs.size := m2.lt
      refine Calls.spliced_nil ?_
      refine call_enz (s := { s1 with heap := h' }) hz fun g he sz kp => wpAny_pyIter_enum he ?_
      have kp : ∀ b o, h'.get? b = some o → g.get? b = some o := kp
      have he : IsEnum g h'.objs.size (s1.heap.objs.size + 4) 0 .none := he
      have I2 : Inv X pins σ H1 { s1 with heap := g } := I1.kept (t' := s1.toks) fun c o w => kp c o (hk c o w)
      have ne : h'.objs.size ∉ [s1.heap.objs.size + 4, s1.heap.objs.size + 2, s1.heap.objs.size + 3, s1.heap.objs.size, s1.heap.objs.size + 1] := by
        rw [hsz]; simp
      refine ⟨h'.objs.size, [h'.objs.size, s1.heap.objs.size + 4, s1.heap.objs.size + 2, s1.heap.objs.size + 3, s1.heap.objs.size, s1.heap.objs.size + 1], _, _, H1, rfl, I2,
        turn_nz (PySem.W.ktu_apart s1.heap.objs.size a b la lb) ne, ⟨⟨.none, he⟩, ⟨⟨.none, false, kp _ _ hz, .inl rfl⟩, kp _ _ hTI, ⟨_, _, kp _ _ hTO⟩, h1.at fun o w => kp _ o w, h2.at fun o w => kp _ o w⟩⟩, fun c hcm => ?_, hR⟩
      have e' : c = h'.objs.size ∨ c = s1.heap.objs.size + 4 ∨ c = s1.heap.objs.size + 2 ∨ c = s1.heap.objs.size + 3 ∨ c = s1.heap.objs.size ∨ c = s1.heap.objs.size + 1 := by simpa using hcm
      have hle : s1.heap.objs.size ≤ c := by
        rcases e' with z | z | z | z | z | z <;> rw [z]
        · rw [hsz]; exact Nat.le_add_right _ _
        · exact Nat.le_add_right _ _
        · exact Nat.le_add_right _ _
        · exact Nat.le_add_right _ _
        · exact Nat.le_refl _
        · exact Nat.le_add_right _ _
      exact I1.fpOk hle (I1.hok.fresh hle)
end PV
end

section
set_option maxRecDepth 100000
set_option maxHeartbeats 2000000
namespace PV
open PySem PySem.Spec PyProof.Rows L2
variable [CodeTabs]
theorem zipL_len : ∀ (xs ys : List D), (zipL xs ys).length = min xs.length ys.length
  | [], _ => by simp [zipL]
  | _ :: _, [] => by simp [zipL]
  | x :: xs, y :: ys => by simp only [zipL, List.length_cons, zipL_len xs ys]; omega
theorem zipL_get : ∀ (xs ys : List D) (i : Nat) (x y : D), xs[i]? = some x → ys[i]? = some y → (zipL xs ys)[i]? = some (.tup [x, y])
  | a :: xs, b :: ys, 0, x, y, h1, h2 => by simp at h1 h2; subst h1 h2; rfl
  | a :: xs, b :: ys, i + 1, x, y, h1, h2 => by
    simp only [List.getElem?_cons_succ] at h1 h2
    simpa [zipL] using zipL_get xs ys i x y h1 h2
  | [], _, i, x, y, h1, h2 => by simp at h1
  | _ :: _, [], i, x, y, h1, h2 => by simp at h2
section
variable {K : PySem.W.Frag} {F : Hp}
theorem walks_zip {a b : Addr} {vs us : List V} {xs ys : List D} (ha : F a = some (.lst vs)) (hb : F b = some (.lst us)) (h1 : RL K F xs vs) (h2 : RL K F ys us) (hl : xs.length ≤ 1000) : Walks K F (Itz K a b) (zipL xs ys) := by
  have l1 := RL.length _ _ h1
  have l2 := RL.length _ _ h2
  have le := zipL_len xs ys
  refine ⟨by rw [le]; omega, fun i H s hi => ⟨vs, us, vs[i]'(by omega), us[i]'(by omega), SqL.of (s _ _ ha), SqL.of (s _ _ hb), List.getElem?_eq_getElem _, List.getElem?_eq_getElem _⟩, fun i H s hi => ⟨vs, us, SqL.of (s _ _ ha), SqL.of (s _ _ hb), by omega⟩, fun i H x H' s y hi => ?_⟩
  obtain ⟨T, x', y', e, hT, eH, w1, w2⟩ := y
  have hi1 : i < xs.length := by omega
  have hi2 : i < ys.length := by omega
  obtain ⟨v, e1, r1⟩ := RL.get h1 (List.getElem?_eq_getElem hi1)
  obtain ⟨u, e2, r2⟩ := RL.get h2 (List.getElem?_eq_getElem hi2)
  have t1 := w1 vs (SqL.of (s _ _ ha))
  have t2 := w2 us (SqL.of (s _ _ hb))
  rw [e1] at t1; cases t1
  rw [e2] at t2; cases t2
  exact ⟨_, zipL_get _ _ _ _ _ (List.getElem?_eq_getElem hi1) (List.getElem?_eq_getElem hi2), .inr (.inl ⟨T, _, _, rfl, e, hT, eH, RL.cons r1 (RL.cons r2 RL.nil)⟩)⟩
theorem walks_nz {a b : Addr} {vs us : List V} {xs ys : List D} (ha : F a = some (.lst vs)) (hb : F b = some (.lst us)) (h1 : RL K F xs vs) (h2 : RL K F ys us) (hl : xs.length ≤ 1000) : Walks K F (ItNz K a b) (enumL 0 (zipL xs ys)) := by
  have l1 := RL.length _ _ h1
  have l2 := RL.length _ _ h2
  have le := zipL_len xs ys
  have le2 := enumL_len (zipL xs ys) 0
  refine ⟨by rw [le2, le]; omega, fun i H s hi => ⟨vs, us, vs[i]'(by omega), us[i]'(by omega), SqL.of (s _ _ ha), SqL.of (s _ _ hb), List.getElem?_eq_getElem _, List.getElem?_eq_getElem _⟩, fun i H s hi => ⟨vs, us, SqL.of (s _ _ ha), SqL.of (s _ _ hb), by omega⟩, fun i H x H' s y hi => ?_⟩
  obtain ⟨T, U, x', y', e, hT, hU, hUT, eH, w1, w2⟩ := y
  have hi1 : i < xs.length := by omega
  have hi2 : i < ys.length := by omega
  obtain ⟨v, e1, r1⟩ := RL.get h1 (List.getElem?_eq_getElem hi1)
  obtain ⟨u, e2, r2⟩ := RL.get h2 (List.getElem?_eq_getElem hi2)
  have t1 := w1 vs (SqL.of (s _ _ ha))
  have t2 := w2 us (SqL.of (s _ _ hb))
  rw [e1] at t1; cases t1
  rw [e2] at t2; cases t2
  refine ⟨.tup [.int ((0 + i : Nat) : Int), .tup [xs[i], ys[i]]], ?_, .inr (.inr ⟨T, U, _, _, _, _, rfl, e, hT, hU, hUT, eH, RL.cons r1 (RL.cons r2 RL.nil), by unfold R; simp⟩)⟩
  rw [enumL_get, zipL_get _ _ _ _ _ (List.getElem?_eq_getElem hi1) (List.getElem?_eq_getElem hi2)]; rfl
end
section
variable {X : Cx} {Γ : Hp → Option Ea → Prop} {a b : Expr} {fa fb : E} {p p2 pos pos2 tpos : Pos} {elts : List Expr} {kk : Nat}
theorem ix_zip (hgz : Gl X "zip") (hmz : X.mg "zip" = none) (ha : EX X Γ a fa) (hb : EX X Γ b fb) (hs : starEach [a, b] X.env = (false, eval a X.env) :: starEach [b] X.env := by rfl) (hs2 : starEach [b] X.env = [(false, eval b X.env)] := by rfl)
    (hpl : (backTo pos (starEach [b] X.env)).any (·.1) = false := by rfl) :
    IX X Γ (.Tuple elts kk tpos) (.Call (.Name "zip" p) [a, b] [] pos) (iZip2 (eCons fa (eCons fb eNil))) := ⟨fun φ hφ => by
  refine PI.weak (pi_zip hgz hmz ((ax_cons ha (ax_cons hb ax_nil (by rw [hs2]; rfl)) hs).at' φ hφ) hs hpl) fun σ H R ⟨F, env, ds, env', r0, e, k⟩ => ?_
  unfold iZip2 at e
  split at e
  · cases e
  · rename_i rs env1 ea
    split at e
    · rename_i xs ys env2 ef
      split at e
      · rename_i hb
        cases e
        refine ⟨F, env, rs, env1, r0, ea, fun F1 H1 vs s1 r1 h1 => ?_⟩
        obtain ⟨F2, s2, r2, h2⟩ := Rel.freezeAll r1 h1 ef
        obtain ⟨v1, ws, rfl, g1, h2⟩ := by unfold RL at h2; exact h2
        obtain ⟨v2, ws, rfl, g2, h2⟩ := by unfold RL at h2; exact h2
        unfold RL at h2
        subst h2
        unfold PV.R at g1 g2
        obtain ⟨a1, us1, rfl, p1, q1⟩ := g1
        obtain ⟨a2, us2, rfl, p2, q2⟩ := g2
        exact ⟨a1, a2, us1, us2, rfl, SqL.of (r2.sub _ _ p1), SqL.of (r2.sub _ _ p2), k F2 H1 _ (s1.trans s2) r2 (walks_zip p1 p2 q1 q2 hb.1)⟩
      · cases e
    · cases e⟩
theorem ix_enumZ (hg : Gl X "enumerate") (hm : X.mg "enumerate" = none) (hgz : Gl X "zip") (hmz : X.mg "zip" = none) (ha : EX X Γ a fa) (hb : EX X Γ b fb) (hs : starEach [a, b] X.env = (false, eval a X.env) :: starEach [b] X.env := by rfl) (hs2 : starEach [b] X.env = [(false, eval b X.env)] := by rfl)
    (hpl : (backTo pos2 (starEach [b] X.env)).any (·.1) = false := by rfl)
    (hs1 : starEach [.Call (.Name "zip" p2) [a, b] [] pos2] X.env = [(false, eval (.Call (.Name "zip" p2) [a, b] [] pos2) X.env)] := by rfl) :
    IX X Γ (.Tuple elts kk tpos) (.Call (.Name "enumerate" p) [.Call (.Name "zip" p2) [a, b] [] pos2] [] pos) (iEnumZ (eCons fa (eCons fb eNil))) := ⟨fun φ hφ => by
  refine PI.weak (pi_nz hg hm hgz hmz ((ax_cons ha (ax_cons hb ax_nil (by rw [hs2]; rfl)) hs).at' φ hφ) hs hpl hs1) fun σ H R ⟨F, env, ds, env', r0, e, k⟩ => ?_
  unfold iEnumZ at e
  split at e
  · cases e
  · rename_i rs env1 ea
    split at e
    · rename_i xs ys env2 ef
      split at e
      · rename_i hb
        cases e
        refine ⟨F, env, rs, env1, r0, ea, fun F1 H1 vs s1 r1 h1 => ?_⟩
        obtain ⟨F2, s2, r2, h2⟩ := Rel.freezeAll r1 h1 ef
        obtain ⟨v1, ws, rfl, g1, h2⟩ := by unfold RL at h2; exact h2
        obtain ⟨v2, ws, rfl, g2, h2⟩ := by unfold RL at h2; exact h2
        unfold RL at h2
        subst h2
        unfold PV.R at g1 g2
        obtain ⟨a1, us1, rfl, p1, q1⟩ := g1
        obtain ⟨a2, us2, rfl, p2, q2⟩ := g2
        exact ⟨a1, a2, us1, us2, rfl, SqL.of (r2.sub _ _ p1), SqL.of (r2.sub _ _ p2), k F2 H1 _ (s1.trans s2) r2 (walks_nz p1 p2 q1 q2 hb.1)⟩
      · cases e
    · cases e⟩
end
end PV
end

section
set_option maxRecDepth 100000
namespace PV
open PySem PySem.Spec PyProof.Rows L2
variable [CodeTabs]
section
variable {K : PySem.W.Frag}
theorem cd_sortedR : CallD K (fun vs H Q => rSortedKw K true [.bl true] vs [.bl true] H Q) dSortedR := by
  intro F H xs cs res Q s hc e
  unfold dSortedR at e
  split at e
  · split at e
    · rename_i is ei
      split at e
      · rename_i hl
        cases e
        obtain ⟨v, rfl, hv⟩ := hc.one
        obtain ⟨p, vs, rfl, h1, h2⟩ := hv.lst s
        rw [RL.ints h2 ei] at h1
        refine ⟨fun i q => (nomatch q), fun q => ⟨p, is, rfl, rfl, SqL.of h1, fun ns' r g1 g2 hr => ?_⟩⟩
        have g2 : ns'.Pairwise (· ≥ ·) := g2
        have h3 : ns'.reverse = sortI is := sorted_uniq (((List.reverse_perm ns').trans g1).trans (sortI_perm is).symm) (by rw [List.pairwise_reverse]; exact g2) (sortI_sorted is)
        have : ns' = (sortI is).reverse := by rw [← h3, List.reverse_reverse]
        rw [this]
        exact q r _ hr (RL.ofInts _)
      · cases e
    · cases e
  · cases e
end
section
variable {X : Cx} {Γ : Hp → Option Ea → Prop} {a : Expr} {fa : E} {p pos kpos cpos : Pos} {j : Nat}
theorem ex_sortedR (hg : Gl X "sorted") (hm : X.mg "sorted" = none) (ha : AX X Γ [a] fs)
    (he : backTo pos (starEach [a] X.env) = (false, eval a X.env) :: backTo pos (starEach [] X.env) := by rfl) (hpl : (backTo pos (starEach [a] X.env)).any (·.1) = false := by rfl) :
    EX X Γ (.Call (.Name "sorted" p) [a] [⟨some "reverse", .Constant (.bool true) j cpos, kpos⟩] pos) (eB dSortedR fs) := ⟨fun φ hφ => by
  refine PE.weak (pe_callBK (id := "sorted") (cr_sortedRev (b := true)) hg hm rfl (ha.at' φ hφ) (pk_cons pe_bl pk_nil) (by decide) (by decide) he hpl) fun σ H Q h => ?_
  have := rE_B cd_sortedR h
  exact this⟩
end
end PV
end

section
set_option maxRecDepth 100000
namespace PV
open PySem PySem.Spec PyProof.Rows L2
variable [CodeTabs]
section
variable {X : Cx} {Γ : Hp → Option Ea → Prop} {e : Expr} {f : E}
theorem ex_fz (h : EX X Γ e f) : EX X Γ e (eFz f) :=
  ⟨fun φ hφ => PE.weak (h.at' φ hφ) fun σ H Q q => by
    obtain ⟨F, env, r, env', r0, ee, k⟩ := q
    unfold eFz at ee
    split at ee
    · cases ee
    · rename_i r1 env1 ef
      split at ee
      · cases ee
      · rename_i d env2 ez
        cases ee
        exact ⟨F, env, r1, env1, r0, ef, fun F1 H1 v s1 rel h1 => by
          obtain ⟨F2, s2, rel2, h2⟩ := rel.freeze h1 ez
          exact k F2 H1 v (s1.trans s2) rel2 h2⟩⟩
end
section
variable {K : PySem.W.Frag} {φ : Act} {F F' H H' : Hp} {env env' : Env} {σ σ' : St}
/-- a slot is forgotten, what it held stays -/
theorem Rel.drop (r : Rel K φ F env σ H) (i : Nat) (hi : ∀ k d, env[i]? ≠ some (.io k d)) : Rel K φ F (env.set i .un) σ H := by
  refine ⟨r.sub, r.old, r.pres, r.new, fun j t ej => ?_, fun j k s t a hjk ej ek hs ht hj hk => ?_, by rw [List.length_set]; exact r.len, r.ioH, r.presT, r.tab, r.ntb, r.tre.move (.refl _) (fun i d e => ?_) (fun i d v fp b e hv ht hb => ⟨(ht.mem hb).1, rfl, (ht.mem hb).2.1⟩) fun i d v fp j u a _ _ _ ej hu hj _ => ?_, r.ioA⟩
  · rcases getElem?_setE ej with ⟨rfl, rfl⟩ | ⟨ne, ej⟩
    · exact .un
    · exact r.slot j t ej
  · rcases getElem?_setE ej with ⟨rfl, rfl⟩ | ⟨nj, ej2⟩
    · cases hs
    · rcases getElem?_setE ek with ⟨rfl, rfl⟩ | ⟨nk, ek2⟩
      · cases ht
      · exact r.dist j k s t a hjk ej2 ek2 hs ht hj hk
  · rcases getElem?_setE e with ⟨rfl, q⟩ | ⟨ne, e⟩
    · cases q
    · exact ⟨e, rfl⟩
  · rcases getElem?_setE ej with ⟨rfl, rfl⟩ | ⟨ne, ej⟩
    · cases hu
    · exact ⟨u, ej, hu, hj⟩
theorem NoTre.drop (r : Rel K φ F env σ H) {a : Addr} (n : NoTre K φ F H env σ a) (i : Nat) : NoTre K φ F H (env.set i .un) σ a :=
  n.move r.tre (.refl _) (fun i d e => by
    rcases getElem?_setE e with ⟨rfl, q⟩ | ⟨ne, e⟩
    · cases q
    · exact ⟨e, rfl⟩) fun i d v fp b e hv ht hb => ⟨(ht.mem hb).1, rfl, (ht.mem hb).2.1⟩
theorem Far.drop {a : Addr} (h : Far env σ a) (i : Nat) : Far (env.set i .un) σ a := fun j s e hs q => by
  rcases getElem?_setE e with ⟨rfl, rfl⟩ | ⟨ne, e⟩
  · cases hs
  · exact h j s e hs q
/-- the items of a tree: own lists move into it -/
theorem moveAll_ok : ∀ {rs : List RV} {vs : List V} {env env2 : Env} {ds : List D}, Rel K φ F env σ H → RvsOk K F σ rs vs → moveAll rs env = some (ds, env2) →
    Rel K φ F env2 σ H ∧ ∃ ls, ItmsOk K φ F H ds vs ls ∧ ls.Nodup ∧ (∀ b, b ∈ ls → Far env2 σ b ∧ NoTre K φ F H env2 σ b) ∧ (∀ b, b ∈ ls → ∃ (j : Nat) (s : Slot), env[j]? = some s ∧ s.held = true ∧ σ[j]? = some (some (.ref b))) ∧
      (∀ b, Far env σ b → Far env2 σ b) ∧ ∀ b, NoTre K φ F H env σ b → NoTre K φ F H env2 σ b
  | [], _, env, env2, ds, r, h, e => by
    cases h
    unfold moveAll at e
    cases e
    exact ⟨r, [], .nil, List.nodup_nil, fun b hb => (nomatch hb), fun b hb => (nomatch hb), fun b h => h, fun b h => h⟩
  | q :: rs, _, env, env2, ds, r, h, e => by
    cases h with
    | @fz d v _ vs h1 h2 =>
      unfold moveAll at e
      split at e
      · rename_i hl
        split at e
        · cases e
        · rename_i ds' env' e'
          cases e
          obtain ⟨r', ls, g1, g2, g3, g4, g5, g6⟩ := moveAll_ok r h2 e'
          exact ⟨r', ls, .cons (l := []) (.inr ⟨hl, h1, rfl⟩) g1, g2, g3, g4, g5, g6⟩
      · cases e
    | @bor i v _ vs hσ h2 =>
      unfold moveAll at e
      split at e
      · rename_i es hs
        split at e
        · cases e
        · rename_i ds' env' e'
          cases e
          have z := r.slot i _ hs
          rw [hσ] at z
          cases z with
          | @own _ a ho z1 z2 z3 z4 =>
            cases ho with
            | lst ws =>
              have r1 := r.drop i (fun k d q => by rw [hs] at q; cases q)
              obtain ⟨r', ls, g1, g2, g3, g4, g5, g6⟩ := moveAll_ok r1 h2 e'
              have far1 : Far (env.set i .un) σ a := fun j s ej hsj hj => by
                rcases getElem?_setE ej with ⟨rfl, rfl⟩ | ⟨ne, ej⟩
                · cases hsj
                · exact r.dist i j _ s a ne hs ej rfl hsj hσ hj
              have nt0 : NoTre K φ F H env σ a := fun j d' v' fp ej hv ht => by
                obtain ⟨v2, fp2, k1, k2, k3, _⟩ := r.tre j d' ej
                rw [hv] at k1; cases k1
                rw [ht.unique k2]
                exact k3 i _ a hs rfl hσ
              have nt1 := NoTre.drop r nt0 i
              have na : a ∉ ls := fun hm => by
                obtain ⟨j, s, ej, hsj, hj⟩ := g4 a hm
                exact far1 j s ej hsj hj
              refine ⟨r', a :: ls, .cons (l := [a]) (.inl ⟨es, a, ws, rfl, rfl, z1, z3, z4, z2, rfl⟩) g1, List.nodup_cons.mpr ⟨na, g2⟩, fun b hb => ?_, fun b hb => ?_, fun b hb => g5 b (hb.drop i), fun b hb => g6 b (NoTre.drop r hb i)⟩
              · rcases List.mem_cons.mp hb with rfl | hb
                · exact ⟨g5 _ far1, g6 _ nt1⟩
                · exact g3 b hb
              · rcases List.mem_cons.mp hb with rfl | hb
                · exact ⟨i, _, hs, rfl, hσ⟩
                · obtain ⟨j, s, ej, hsj, hj⟩ := g4 b hb
                  rcases getElem?_setE ej with ⟨rfl, rfl⟩ | ⟨ne, ej⟩
                  · cases hsj
                  · exact ⟨j, s, ej, hsj, hj⟩
            | _ => exact z2.elim
      · rename_i d hs
        split at e
        · rename_i hl
          split at e
          · cases e
          · rename_i ds' env' e'
            cases e
            have z := r.slot i _ hs
            rw [hσ] at z
            cases z with
            | fz z =>
              obtain ⟨r', ls, g1, g2, g3, g4, g5, g6⟩ := moveAll_ok r h2 e'
              exact ⟨r', ls, .cons (l := []) (.inr ⟨hl, z, rfl⟩) g1, g2, g3, g4, g5, g6⟩
        · cases e
      · cases e
theorem ItmsOk.len {ds : List D} {ws : List V} {ls : List Addr} (h : ItmsOk K φ F H ds ws ls) : ds.length = ws.length := by
  induction h with
  | nil => rfl
  | cons _ _ ih => simp [ih]
/-- a new object over moved items is a tree -/
theorem Rel.plant {rs : List RV} {vs : List V} {env env2 : Env} {ds : List D} (r : Rel K φ F env σ H) (h : RvsOk K F σ rs vs) (e : moveAll rs env = some (ds, env2)) {d : D} {ho : HO} (o : TObj d ds vs ho) {p : Addr} (hp : H p = none) :
    Rel K φ F env2 σ (L2.upd H p ho) ∧ RvOk K φ F (L2.upd H p ho) env2 σ (.tre d) (.ref p) := by
  obtain ⟨r2, ls, g1, g2, g3, g4, g5, g6⟩ := moveAll_ok r h e
  have np : p ∉ ls := fun hm => by
    obtain ⟨_, _, ho', q, _⟩ := g1.mem hm
    rw [hp] at q; cases q
  have g1' : ItmsOk K φ F (L2.upd H p ho) ds vs ls := g1.move (.refl _) fun b hb => ⟨(g1.mem hb).1, by rw [upd_ne fun q => np (by rw [← q]; exact hb)], (g1.mem hb).2.1⟩
  refine ⟨r2.laid hp, p :: ls, ⟨p, ds, vs, ho, ls, rfl, upd_same, o, Same.free r2.sub hp, r2.actNone hp, g1', rfl, List.nodup_cons.mpr ⟨np, g2⟩⟩, fun a ha => ?_⟩
  rcases List.mem_cons.mp ha with rfl | ha
  · exact ⟨r2.far hp, r2.laidT hp (Rel.farT hp)⟩
  · exact ⟨(g3 a ha).1, r2.laidT hp (g3 a ha).2⟩
variable {Q : VK}
theorem rE_lstT {es : EL} (h : rE K φ (eLstT es) σ H Q) : tLst (rA K φ es) σ H Q := by
  obtain ⟨F, env, q, env', r0, e, k⟩ := h
  unfold eLstT at e
  split at e
  · cases e
  · rename_i rs env1 ea
    refine ⟨F, env, rs, env1, r0, ea, fun F1 H1 xs s1 r1 h1 => ?_⟩
    split at e
    · cases e
    · rename_i ds env2 e2
      split at e
      · rename_i hl
        cases e
        refine ⟨?_, fun p hp => ?_⟩
        · obtain ⟨_, ls, g1, _⟩ := moveAll_ok r1 h1 e2
          rw [← g1.len]; exact hl
        · obtain ⟨r2, g⟩ := r1.plant h1 e2 (d := .lst ds) (ho := .lst xs) (.inl ⟨rfl, rfl⟩) hp
          exact k F1 _ _ s1 r2 g
      · cases e
theorem rE_tupT {es : EL} (h : rE K φ (eTupT es) σ H Q) : tTup (rA K φ es) σ H Q := by
  obtain ⟨F, env, q, env', r0, e, k⟩ := h
  unfold eTupT at e
  split at e
  · cases e
  · rename_i rs env1 ea
    refine ⟨F, env, rs, env1, r0, ea, fun F1 H1 xs s1 r1 h1 => ?_⟩
    split at e
    · cases e
    · rename_i ds env2 e2
      split at e
      · rename_i hl
        cases e
        refine ⟨?_, fun p hp => ?_⟩
        · obtain ⟨_, ls, g1, _⟩ := moveAll_ok r1 h1 e2
          rw [← g1.len]; exact hl
        · obtain ⟨r2, g⟩ := r1.plant h1 e2 (d := .tup ds) (ho := .tup xs) (.inr ⟨rfl, rfl⟩) hp
          exact k F1 _ _ s1 r2 g
      · cases e
end
section
variable {X : Cx} {Γ : Hp → Option Ea → Prop} {pos : Pos}
theorem ex_lstT {es : List Expr} {g : EL} (h : AX X Γ es g) : EX X Γ (.List es pos) (eLstT g) := ⟨fun φ hφ => PE.weak (pe_lst (h.at' φ hφ)) fun _ _ _ h => rE_lstT h⟩
theorem ex_tupT {es : List Expr} {g : EL} {x1} (h : AX X Γ es g) : EX X Γ (.Tuple es x1 pos) (eTupT g) := ⟨fun φ hφ => PE.weak (pe_tup (h.at' φ hφ)) fun _ _ _ h => rE_tupT h⟩
end
/-! ### an item is taken or changed -/
section
variable {K : PySem.W.Frag} {φ : Act} {F F' H H' : Hp} {env env' : Env} {σ σ' : St}
theorem ItmsOk.at {ds : List D} {ws : List V} {ls : List Addr} (h : ItmsOk K φ F H ds ws ls) : ∀ {j : Nat} {es : List D}, ds[j]? = some (.lst es) → ∃ b us, ws[j]? = some (.ref b) ∧ b ∈ ls ∧ H b = some (.lst us) ∧ F b = none ∧ φ.H b = none ∧ RL K F es us := by
  induction h with
  | nil => intro j es e; simp at e
  | @cons d w l ls ds ws h t ih =>
    intro j es e
    cases j with
    | zero =>
      simp at e; subst e
      rcases h with ⟨es', b, us, e1, rfl, h1, h2, h3, h4, rfl⟩ | ⟨h1, _⟩
      · cases e1
        exact ⟨b, us, rfl, by simp, h1, h2, h3, h4⟩
      · cases h1
    | succ j =>
      obtain ⟨b, us, q1, q2, q3⟩ := ih (j := j) (es := es) (by simpa using e)
      exact ⟨b, us, by simpa using q1, by simp [q2], q3⟩
theorem ItmsOk.put {ds : List D} {ws : List V} {ls : List Addr} (h : ItmsOk K φ F H ds ws ls) : ∀ {j : Nat} {es es' : List D} {b : Addr} {us us' : List V}, ls.Nodup → ds[j]? = some (.lst es) → ws[j]? = some (.ref b) → H b = some (.lst us) → RL K F es' us' → ItmsOk K φ F (upd H b (.lst us')) (ds.set j (.lst es')) ws ls := by
  induction h with
  | nil => intro j es es' b us us' _ e; simp at e
  | @cons d w l ls ds ws h t ih =>
    intro j es es' b us us' nd e ew hb hr
    cases j with
    | zero =>
      simp at e; subst e
      simp at ew; subst ew
      rcases h with ⟨es0, b0, us0, e1, e2, h1, h2, h3, h4, rfl⟩ | ⟨h1, _⟩
      · cases e1
        cases e2
        have nb : b ∉ ls := (List.nodup_cons.mp (show (b :: ls).Nodup from nd)).1
        refine .cons (.inl ⟨es', b, us', rfl, rfl, upd_same, h2, h3, hr, rfl⟩) (t.move (.refl _) fun c hc => ⟨(t.mem hc).1, by rw [upd_ne fun q => nb (by rw [← q]; exact hc)], (t.mem hc).2.1⟩)
      · cases h1
    | succ j =>
      have nd2 : ls.Nodup := (List.nodup_append.mp nd).2.1
      obtain ⟨b2, us2, q1, q2, _⟩ := t.at (j := j) (es := es) (by simpa using e)
      simp at ew
      rw [ew] at q1; cases q1
      refine .cons ?_ (ih (j := j) nd2 (by simpa using e) ew hb hr)
      rcases h with ⟨es0, b0, us0, e1, e2, h1, h2, h3, h4, rfl⟩ | h
      · have ne : b0 ≠ b := fun q => by
          subst q
          exact (List.nodup_cons.mp (show (b0 :: ls).Nodup from nd)).1 q2
        exact .inl ⟨es0, b0, us0, e1, e2, by rw [upd_ne ne]; exact h1, h2, h3, h4, rfl⟩
      · exact .inr h
theorem treAt_shape {i : Nat} {k : Int} {d : D} {ds es : List D} {j : Nat} (h : treAt env i k = some (d, ds, j, es)) : env[i]? = some (.tre d) ∧ d.its = some ds ∧ ixOf ds.length k = some j ∧ ds[j]? = some (.lst es) := by
  unfold treAt at h
  split at h
  · rename_i d' hs
    split at h
    · cases h
    · rename_i ds' hd
      split at h
      · cases h
      · rename_i j' hj
        split at h
        · rename_i es' he
          cases h
          exact ⟨hs, hd, hj, he⟩
        · cases h
  · cases h
/-- what stands at an item of a tree -/
theorem tre_ix {d : D} {v : V} {fp : List Addr} (h : TreV K φ F H d v fp) {ds es : List D} {k : Int} {j : Nat} (hd : d.its = some ds) (hj : ixOf ds.length k = some j) (he : ds[j]? = some (.lst es)) :
    ∃ a b us, v = .ref a ∧ b ∈ fp ∧ b ≠ a ∧ H b = some (.lst us) ∧ F b = none ∧ φ.H b = none ∧ RL K F es us ∧ (∀ Q : VK, Q (.ref b) H → rIx K (.ref a) (.int k) H Q) ∧ (∃ ho vs, H a = some ho ∧ (ho = .lst vs ∨ ho = .tup vs) ∧ vs[j]? = some (V.ref b)) ∧
      ∀ us' es', RL K F es' us' → TreV K φ F (upd H b (.lst us')) (d.re (ds.set j (.lst es'))) v fp := by
  obtain ⟨a, ds', vs, ho, ls, rfl, h1, h2, h4, h5, h3, rfl, h6⟩ := h
  obtain ⟨na, nl⟩ := List.nodup_cons.mp h6
  have e : ds' = ds := by
    rcases h2 with ⟨rfl, _⟩ | ⟨rfl, _⟩ <;> (cases hd; rfl)
  subst e
  obtain ⟨b, us, q1, q2, q3, q4, q5, q6⟩ := h3.at he
  have nb : b ≠ a := fun q => na (by rw [← q]; exact q2)
  have hl := h3.len
  refine ⟨a, b, us, rfl, List.mem_cons_of_mem _ q2, nb, q3, q4, q5, q6, fun Q hQ => ?_, ⟨ho, vs, h1, by rcases h2 with ⟨_, e⟩ | ⟨_, e⟩; exact .inl e; exact .inr e, q1⟩, fun us' es' hr => ?_⟩
  · have ga : getAt vs k = some (.ref b) := getAt_of (by rw [← hl]; exact hj) q1
    rcases h2 with ⟨rfl, rfl⟩ | ⟨rfl, rfl⟩
    · exact .inl ⟨a, vs, k, _, rfl, rfl, SqL.of h1, ga, hQ⟩
    · exact .inr (.inl ⟨a, vs, k, _, rfl, rfl, SqT.of h1, ga, hQ⟩)
  · refine ⟨a, ds'.set j (.lst es'), vs, ho, ls, rfl, by rw [upd_ne (Ne.symm nb)]; exact h1, ?_, h4, h5, h3.put nl he q1 q3 hr, rfl, h6⟩
    rcases h2 with ⟨rfl, rfl⟩ | ⟨rfl, rfl⟩
    · exact .inl ⟨rfl, rfl⟩
    · exact .inr ⟨rfl, rfl⟩
/-- objects that nothing here knows are hidden -/
theorem Rel.hideL : ∀ (l : List Addr) {φ : Act}, Rel K φ F env σ H → l.Nodup → (∀ b, b ∈ l → TMem φ F H b ∧ Far env σ b ∧ NoTre K φ F H env σ b) →
    ∃ φ' : Act, φ'.F = φ.F ∧ φ'.ea = φ.ea ∧ Rel K φ' F env σ H ∧ ∀ (F2 H2 : Hp) (env2 : Env) (σ2 : St), Rel K φ' F2 env2 σ2 H2 → Rel K φ F2 env2 σ2 H2 ∧ ∀ b, b ∈ l → H2 b = H b ∧ F2 b = none ∧ Far env2 σ2 b ∧ NoTre K φ F2 H2 env2 σ2 b
  | [], φ, r, _, _ => ⟨φ, rfl, rfl, r, fun F2 H2 env2 σ2 r2 => ⟨r2, fun b hb => (nomatch hb)⟩⟩
  | c :: l, φ, r, nd, k => by
    obtain ⟨nc, nl⟩ := List.nodup_cons.mp nd
    obtain ⟨⟨c1, c2, ho, c3, c4, _⟩, c5, c6⟩ := k c List.mem_cons_self
    have hf : φ.F c = none := Same.free r.old c1
    have hio : c ∉ φ.io := fun q => by
      obtain ⟨o, z⟩ := r.ioA c q
      rw [c2] at z; cases z
    have r1 := r.hide c3 c1 c2 c5 c6 c4
    obtain ⟨φ', e1, e2, r', back⟩ := Rel.hideL l r1 nl fun b hb => by
      obtain ⟨⟨b1, b2, hob, b3, b4⟩, b5, b6⟩ := k b (List.mem_cons_of_mem _ hb)
      have ne : b ≠ c := fun q => nc (by rw [← q]; exact hb)
      refine ⟨⟨b1, ?_, hob, b3, b4⟩, b5, b6.move r.tre (.refl _) (fun i d e => ⟨e, rfl⟩) fun i d v fp x e hv ht hx => ⟨(ht.mem hx).1, rfl, ?_⟩⟩
      · show L2.upd φ.H c ho b = none
        rw [upd_ne ne]; exact b2
      · show L2.upd φ.H c ho x = none
        rw [upd_ne fun q => c6 i d v fp e hv ht (by rw [← q]; exact hx)]; exact (ht.mem hx).2.1
    refine ⟨φ', e1, e2, r', fun F2 H2 env2 σ2 r2 => ?_⟩
    obtain ⟨r3, g⟩ := back F2 H2 env2 σ2 r2
    obtain ⟨r4, h1, h2, h3, h4⟩ := r3.unhide c2 hf hio c4
    refine ⟨r4, fun b hb => ?_⟩
    rcases List.mem_cons.mp hb with rfl | hb
    · exact ⟨by rw [h1, c3], h2, h3, h4⟩
    · obtain ⟨g1, g2, g3, g4⟩ := g b hb
      refine ⟨g1, g2, g3, g4.move r3.tre (.refl _) (fun i d e => ⟨e, rfl⟩) fun i d v fp x e hv ht hx => ⟨(ht.mem hx).1, rfl, ?_⟩⟩
      have q : L2.upd φ.H c ho x = none := (ht.mem hx).2.1
      by_cases z : x = c
      · rw [z, upd_same] at q; cases q
      · rw [upd_ne z] at q; exact q
end
end PV
namespace PV
open PySem PySem.Spec PyProof.Rows L2
variable [CodeTabs]
section
variable {K : PySem.W.Frag} {φ : Act} {F H : Hp} {env env' : Env} {σ : St} {ix : E} {i : Nat} {Q : VK}
/-- a tree alone, its slot forgotten -/
theorem Rel.lift (r : Rel K φ F env σ H) {d : D} (hs : env[i]? = some (.tre d)) : ∃ v fp, σ[i]? = some (some v) ∧ TreV K φ F H d v fp ∧ Rel K φ F (env.set i .un) σ H ∧ ∀ b, b ∈ fp → TMem φ F H b ∧ Far (env.set i .un) σ b ∧ NoTre K φ F H (env.set i .un) σ b := by
  obtain ⟨v, fp, h1, h2, h3, h4⟩ := r.tre i d hs
  refine ⟨v, fp, h1, h2, r.drop i (fun k d q => by rw [hs] at q; cases q), fun b hb => ⟨h2.mem hb, fun j s ej hsj hj => ?_, fun j d' v' fp' ej hv ht => ?_⟩⟩
  · rcases getElem?_setE ej with ⟨rfl, rfl⟩ | ⟨ne, ej⟩
    · cases hsj
    · exact h3 j s b ej hsj hj hb
  · rcases getElem?_setE ej with ⟨rfl, q⟩ | ⟨ne, ej⟩
    · cases q
    · exact h4 j d' v' fp' (Ne.symm ne) ej hv ht b hb
theorem rIx_mono {x y : V} {Q Q' : VK} (h : rIx K x y H Q) (k : ∀ v H, Q v H → Q' v H) : rIx K x y H Q' := by
  rcases h with ⟨p, xs, j, v, h1, h2, h3, h4, h5⟩ | ⟨p, xs, j, v, h1, h2, h3, h4, h5⟩ | ⟨z, j, c, h1, h2, h3, h4, h5⟩
  · exact .inl ⟨p, xs, j, v, h1, h2, h3, h4, k _ _ h5⟩
  · exact .inr (.inl ⟨p, xs, j, v, h1, h2, h3, h4, k _ _ h5⟩)
  · exact .inr (.inr ⟨z, j, c, h1, h2, h3, h4, k _ _ h5⟩)
theorem isTre_at {i : Nat} (h : isTre env i = true) : ∃ d, env[i]? = some (.tre d) := by
  unfold isTre at h
  split at h
  · rename_i d hs; exact ⟨d, hs⟩
  · cases h
theorem PVal.intEq {F H : Hp} {k : Int} {v : V} (h : PVal K F H (.int k) v) : v = .int k := h.int
theorem rE_take (h : rE K φ (eTake i ix) σ H Q) : tOp (rIx K) (tVar i) (rE K φ ix) σ H Q := by
  obtain ⟨F, env, q, env', r0, e, k⟩ := h
  unfold eTake at e
  split at e
  · rename_i ht0
    obtain ⟨d0, hd0⟩ := isTre_at ht0
    obtain ⟨v, fp0, hv, _⟩ := r0.tre i d0 hd0
    split at e
    · cases e
    · rename_i ri env1 ei
      split at e
      · rename_i kk ek
        split at e
        · cases e
        · rename_i d ds j es et
          cases e
          refine ⟨v, hv, F, env, ri, env1, r0, ei, fun F1 H1 y s1 r1 h1 => ?_⟩
          obtain ⟨hs, hd, hj, he⟩ := treAt_shape et
          cases (r1.peek h1 ek).intEq
          obtain ⟨v1, fp, g1, g2, r2, g3⟩ := r1.lift hs
          rw [hv] at g1; cases g1
          obtain ⟨a, b, us, rfl, hb, nb, t1, t2, t3, t4, t5, _, _⟩ := tre_ix g2 hd hj he
          obtain ⟨_, q2, q3⟩ := g3 b hb
          exact t5 Q (k F1 H1 _ s1 r2 ⟨b, .lst us, rfl, t1, t4, t2, t3, q2, q3⟩)
      · cases e
  · cases e
theorem rE_mutT {r : V → List V → Hp → VK → Prop} {fm : D → List D → Option (D × RV)} {es : EL} (hf : MutD K r fm)
    (h : rE K φ (eMutT fm i ix es) σ H Q) : tBM K "list" r (tOp (rIx K) (tVar i) (rE K φ ix)) (fun σ H Q => ∃ φ' : Act, φ'.F = φ.F ∧ φ'.ea = φ.ea ∧ rA K φ' es σ H Q) σ H Q := by
  obtain ⟨F, env, q, env', r0, e, k⟩ := h
  unfold eMutT at e
  split at e
  · rename_i ht0
    obtain ⟨d0, hd0⟩ := isTre_at ht0
    obtain ⟨v, fp0, hv, _⟩ := r0.tre i d0 hd0
    split at e
    · cases e
    · rename_i ri env1 ei
      split at e
      · rename_i kk ek
        split at e
        · cases e
        · rename_i d ds j ls et
          refine ⟨v, hv, F, env, ri, env1, r0, ei, fun F1 H1 y s1 r1 h1 => ?_⟩
          obtain ⟨hs, hd, hj, he⟩ := treAt_shape et
          cases (r1.peek h1 ek).intEq
          obtain ⟨v1, fp, g1, g2, r2, g3⟩ := r1.lift hs
          rw [hv] at g1; cases g1
          have g2' := g2
          obtain ⟨a, b, us, rfl, hb, nb, t1, t2, t3, t4, t5, ⟨hoA, vsA, A1, A2, A3⟩, t6⟩ := tre_ix g2 hd hj he
          refine t5 _ ⟨.inl ⟨rfl, us, SqL.of t1⟩, ?_⟩
          have nd : fp.Nodup := by
            obtain ⟨_, _, _, _, _, _, _, _, _, _, _, rfl, z⟩ := g2'
            exact z
          obtain ⟨φ', f1, f2, r3, back⟩ := Rel.hideL fp r2 nd g3
          split at e
          · cases e
          · rename_i rs env2 ea
            refine ⟨φ', f1, f2, F1, _, rs, env2, r3, ea, fun F2 H2 vs s2 r4 h4 => ?_⟩
            split at e
            · cases e
            · rename_i as env3 ef
              obtain ⟨F3, s3, r5, h5⟩ := r4.freezeAll h4 ef
              obtain ⟨r6, g6⟩ := back F3 H2 env3 σ r5
              split at e
              · rename_i ls' res em
                split at e
                · cases e
                · rename_i env4 ep
                  cases e
                  obtain ⟨b1, b2, b3, b4⟩ := g6 b hb
                  have hb2 : H2 b = some (.lst us) := by rw [b1]; exact t1
                  obtain ⟨dr, rfl, go⟩ := hf F3 H2 b (.lst us) (.lst ls) (.lst ls') as _ vs Q r6.sub hb2 (RL.mono (s2.trans s3) _ _ t4) h5 em
                  refine go fun ho' w hob hr => ?_
                  cases ho' with
                  | lst us' =>
                    have hob : RL K F3 ls' us' := hob
                    -- the tree behind the change
                    have g2a : TreV K φ F3 H2 d (.ref a) fp := g2'.move (s2.trans s3) fun c hc => ⟨(g6 c hc).2.1, (g6 c hc).1, (g2'.mem hc).2.1⟩
                    obtain ⟨a', b', us2, e1, hb', _, t1', _, _, _, t5', ⟨hoB, vsB, B1, B2, B3⟩, t6'⟩ := tre_ix g2a hd hj he
                    cases e1
                    have eb : b' = b := by
                      have hH : H2 a = H1 a := by
                        have ha : a ∈ fp := by
                          obtain ⟨_, _, _, _, _, e0, _, _, _, _, _, rfl, _⟩ := g2'
                          cases e0; exact List.mem_cons_self
                        exact (g6 a ha).1
                      rw [hH, A1] at B1; cases B1
                      have ev : vsA = vsB := by rcases A2 with rfl | rfl <;> rcases B2 with e | e <;> cases e <;> rfl
                      subst ev
                      rw [A3] at B3; cases B3; rfl
                    subst eb
                    have tN := t6' us' ls' hob
                    have r7 := r6.turn (ho' := .lst us') hb2 b2 t3 b3 b4
                    have r8 := r7.putTre (i := i) (d := d.re (ds.set j (.lst ls'))) (v := .ref a) ep ⟨fp, tN, fun c hc => ⟨(g6 c hc).2.2.1, NoTre.turn r6 b4 (g6 c hc).2.2.2⟩⟩
                    have eσ : σ.set i (some (V.ref a)) = σ := by
                      obtain ⟨hi, hi2⟩ := List.getElem?_eq_some_iff.mp hv
                      rw [← hi2]; exact List.set_getElem_self hi
                    rw [eσ] at r8
                    exact k F3 _ w (s1.trans (s2.trans s3)) r8 hr
                  | _ => exact hob.elim
              · cases e
      · cases e
  · cases e
end
section
variable {X : Cx} {Γ : Hp → Option Ea → Prop} {e a : Expr} {ix : E} {es : List Expr} {g : EL} {pos apos cpos p0 : Pos} {i : Nat}
theorem ex_take {x : Str} {u : Expr} (hi : EX X Γ u ix) (hs : PlainIx u) (hN : X.N[i]? = some x := by rfl) (hv : Vis X.env.scope x := by first | exact Or.inl rfl | exact Or.inr (Or.inl rfl) | exact Or.inr (Or.inr rfl)) (hd : (x == ("__debug__" : Str)) = false := by decide)
    (hcd : (x == ("__classdict__" : Str)) = false := by decide) : EX X Γ (.Subscript (.Name x p0) u pos) (eTake i ix) :=
  ⟨fun φ hφ => PE.weak (pe_ix ix_seq (pe_var hN hv hd hcd) (hi.at' φ hφ) hs) fun _ _ _ h => rE_take h⟩
theorem AX.any {f : EL} (h : AX X Γ es f) (φ : Act) (hφ : Γ φ.F φ.ea) : PA X es (fun σ H Q => ∃ φ' : Act, φ'.F = φ.F ∧ φ'.ea = φ.ea ∧ rA X.K φ' f σ H Q) :=
  ⟨fun pos pins s σ H Q I ⟨φ', e1, e2, q⟩ => (h.at' φ' (by rw [e1, e2]; exact hφ)).run pos pins s σ H Q I q⟩
theorem ex_mutT {id : String} {name x : Str} {u : Expr} {r : V → List V → Hp → VK → Prop} {fm : D → List D → Option (D × RV)} (pa : PlainAttrs "list") (slot : PySem.Slot "list" name id) (hty : typeOf (.builtin id) = pure (.type "method_descriptor")) (hm : MtR X id r) (hf : MutD X.K r fm)
    (hi : EX X Γ u ix) (hs : PlainIx u) (ha : AX X Γ (a :: es) g)
    (hN : X.N[i]? = some x := by rfl) (hv : Vis X.env.scope x := by first | exact Or.inl rfl | exact Or.inr (Or.inl rfl) | exact Or.inr (Or.inr rfl)) (hd : (x == ("__debug__" : Str)) = false := by decide)
    (hcd : (x == ("__classdict__" : Str)) = false := by decide)
    (hbase : attributeBase (.Subscript (.Name x p0) u pos) name X.env (eval (.Subscript (.Name x p0) u pos) X.env) = eval (.Subscript (.Name x p0) u pos) X.env := by rfl)
    (hfew : ((backTo cpos (starEach (a :: es) X.env)).all (fun x => !x.1) && (backToKw cpos (keywordEach [] X.env)).all (fun x => x.1.isSome)
      && decide ((a :: es).length + ([] : List Keyword).length + (if ([] : List Keyword).isEmpty then 0 else 1) < 30)) = true := by rfl)
    (hline : (apos.endLine == cpos.line) = true := by rfl) (hst : starEach (a :: es) X.env = (false, eval a X.env) :: starEach es X.env := by rfl) (hplain : (backTo cpos (starEach es X.env)).any (·.1) = false := by rfl) :
    EX X Γ (.Call (.Attribute (.Subscript (.Name x p0) u pos) name apos) (a :: es) [] cpos) (eMutT fm i ix g) :=
  ⟨fun φ hφ => PE.weak (pe_bm pa slot hty hm (pe_ix ix_seq (pe_var hN hv hd hcd) (hi.at' φ hφ) hs) (ha.any φ hφ) hbase hfew hline hst hplain) fun σ H Q h => rE_mutT hf h⟩
theorem ex_mutT0 {id : String} {name x : Str} {u : Expr} {r : V → List V → Hp → VK → Prop} {fm : D → List D → Option (D × RV)} (pa : PlainAttrs "list") (slot : PySem.Slot "list" name id) (hty : typeOf (.builtin id) = pure (.type "method_descriptor")) (hm : MtR X id r) (hf : MutD X.K r fm)
    (hi : EX X Γ u ix) (hs : PlainIx u)
    (hN : X.N[i]? = some x := by rfl) (hv : Vis X.env.scope x := by first | exact Or.inl rfl | exact Or.inr (Or.inl rfl) | exact Or.inr (Or.inr rfl)) (hd : (x == ("__debug__" : Str)) = false := by decide)
    (hcd : (x == ("__classdict__" : Str)) = false := by decide)
    (hbase : attributeBase (.Subscript (.Name x p0) u pos) name X.env (eval (.Subscript (.Name x p0) u pos) X.env) = eval (.Subscript (.Name x p0) u pos) X.env := by rfl)
    (hline : (apos.endLine == cpos.line) = true := by rfl) :
    EX X Γ (.Call (.Attribute (.Subscript (.Name x p0) u pos) name apos) [] [] cpos) (eMutT fm i ix eNil) :=
  ⟨fun φ hφ => PE.weak (pe_bm0 pa slot hty hm (pe_ix ix_seq (pe_var hN hv hd hcd) (hi.at' φ hφ) hs) hbase hline) fun σ H Q h => by
    obtain ⟨v, hv, F, env, ri, env1, r0, ei, kk⟩ := rE_mutT hf h
    refine ⟨v, hv, F, env, ri, env1, r0, ei, fun F' H' y s' r' h' => ?_⟩
    have q := kk F' H' y s' r' h'
    refine rIx_mono q fun x H' ⟨q1, φ', _, _, q2⟩ => ⟨q1, rA_nil q2⟩⟩
end
end PV
end

section
set_option maxRecDepth 100000
namespace PV
open PySem PySem.Spec PyProof.Rows L2 PySem.SeqAt
variable [CodeTabs]
mutual
theorem alk_py : ∀ (a b : D), a.alk b = true → PySem.W.alike a.py b.py = true ∧ a.py ≠ .none
  | a, b, h => by
    cases a with
    | lst xs =>
      cases b with
      | lst ys => simp only [D.alk] at h; simp only [D.py, PySem.W.alike]; exact ⟨alkL_py xs ys h, fun q => nomatch q⟩
      | _ => simp [D.alk] at h
    | tup xs =>
      cases b with
      | tup ys => simp only [D.alk] at h; simp only [D.py, PySem.W.alike]; exact ⟨alkL_py xs ys h, fun q => nomatch q⟩
      | _ => simp [D.alk] at h
    | bl _ => cases b <;> simp [D.alk] at h; simp [D.py, PySem.W.alike]
    | int _ => cases b <;> simp [D.alk] at h; simp [D.py, PySem.W.alike]
    | str _ => cases b <;> simp [D.alk] at h; simp [D.py, PySem.W.alike]
    | _ => cases b <;> simp [D.alk] at h
theorem alkL_py : ∀ (a b : List D), alkL a b = true → PySem.W.alikeAll (pyL a) (pyL b) = true
  | [], b, _ => by simp only [pyL, PySem.W.alikeAll]
  | _ :: _, [], _ => by simp only [pyL, PySem.W.alikeAll]
  | x :: xs, y :: ys, h => by
    simp only [alkL, Bool.and_eq_true] at h
    simp only [pyL, PySem.W.alikeAll, Bool.and_eq_true]
    exact ⟨(alk_py x y h.1).1, alkL_py xs ys h.2⟩
end
mutual
theorem lt_py : ∀ (n m : Nat) (a b : D), a.shal n = true → b.shal m = true → a.alk b = true → PySem.W.dataLt a.py b.py = a.ltD b
  | n, m, a, b, ha, hb, h => by
    cases a with
    | lst xs =>
      cases b with
      | lst ys =>
        cases n with
        | zero => cases ha
        | succ n => cases m with
          | zero => cases hb
          | succ m =>
            simp only [D.alk] at h; simp only [D.py, D.ltD]
            rw [PySem.W.dataLt_list]; exact ltL_py n m xs ys ha hb h
      | _ => simp [D.alk] at h
    | tup xs =>
      cases b with
      | tup ys =>
        cases n with
        | zero => cases ha
        | succ n => cases m with
          | zero => cases hb
          | succ m =>
            simp only [D.alk] at h; simp only [D.py, D.ltD]
            rw [PySem.W.dataLt_tuple]; exact ltL_py n m xs ys ha hb h
      | _ => simp [D.alk] at h
    | bl x => cases b with
      | bl y =>
        simp only [D.py, D.ltD]
        rw [PySem.W.dataLt_bool]; cases x <;> cases y <;> rfl
      | _ => simp [D.alk] at h
    | int _ => cases b with
      | int _ => simp only [D.py, D.ltD]; rw [PySem.W.dataLt_int]
      | _ => simp [D.alk] at h
    | str _ => cases b with
      | str _ => simp only [D.py, D.ltD]; rw [PySem.W.dataLt_str]
      | _ => simp [D.alk] at h
    | _ => cases b <;> simp [D.alk] at h
theorem ltL_py : ∀ (n m : Nat) (a b : List D), shalL n a = true → shalL m b = true → alkL a b = true → PyProof.Rows.lexLt PyProof.Rows.itemOrd (PySem.W.keyToksAll (pyL a)) (PySem.W.keyToksAll (pyL b)) = ltL a b
  | _, _, [], [], _, _, _ => by simp only [pyL, ltL]; exact lex_irrefl _
  | _, _, [], y :: ys, _, _, _ => by
    simp only [pyL, ltL]
    rw [PySem.W.toks_all_cons]
    simp only [PySem.W.keyToksAll]
    rw [lex_diff (O := PyProof.Rows.itemOrd) (by simp)]
    rfl
  | _, _, x :: xs, [], _, _, _ => by
    simp only [pyL, ltL]
    rw [PySem.W.toks_all_cons]
    simp only [PySem.W.keyToksAll]
    rw [lex_diff (O := PyProof.Rows.itemOrd) (by simp)]
    rfl
  | n, m, x :: xs, y :: ys, ha, hb, h => by
    simp only [shalL, Bool.and_eq_true] at ha hb
    simp only [alkL, Bool.and_eq_true] at h
    simp only [pyL, ltL]
    rw [PySem.W.dataLt_cons (alk_py x y h.1).1, eqv_py n m x y ha.1 hb.1, ltL_py n m xs ys ha.2 hb.2 h.2, lt_py n m x y ha.1 hb.1 h.1]
end
/-! ### comparisons -/
def rCmpG (K : PySem.W.Frag) (g : PyData → PyData → Bool) : R2 := fun x y H Q => ∃ da db, Dp K H x da ∧ Dp K H y db ∧ PySem.W.alike da db = true ∧ da ≠ .none ∧ da.depth ≤ 40 ∧ Q (.bl (g da db)) H
section
variable {X : Cx}
theorem op_ltG (hu : X.A.units + 65 < cLine) : OpR X (compareOp .Lt) (rCmpG X.K PySem.W.dataLt) := by
  intro pins s σ H x y v u Q I rx ry h
  obtain ⟨da, db, h1, h2, h3, h4, h5, q⟩ := h
  obtain ⟨as, g1⟩ := Dp.reads I _ _ _ h1 rx
  obtain ⟨bs, g2⟩ := Dp.reads I _ _ _ h2 ry
  exact PySem.W.lt_data g1 g2 h3 h4 (by have : min da.depth db.depth ≤ da.depth := Nat.min_le_left _ _; omega) ⟨.bl _, H, I, rfl, q⟩
theorem op_gtG (hu : X.A.units + 65 < cLine) : OpR X (compareOp .Gt) (rCmpG X.K fun a b => PySem.W.dataLt b a) := by
  intro pins s σ H x y v u Q I rx ry h
  obtain ⟨da, db, h1, h2, h3, h4, h5, q⟩ := h
  obtain ⟨as, g1⟩ := Dp.reads I _ _ _ h1 rx
  obtain ⟨bs, g2⟩ := Dp.reads I _ _ _ h2 ry
  exact PySem.W.gt_data g1 g2 h3 h4 (by have : min da.depth db.depth ≤ da.depth := Nat.min_le_left _ _; omega) ⟨.bl _, H, I, rfl, q⟩
theorem op_leG (hu : X.A.units + 65 < cLine) : OpR X (compareOp .LtE) (rCmpG X.K fun a b => !PySem.W.dataLt b a) := by
  intro pins s σ H x y v u Q I rx ry h
  obtain ⟨da, db, h1, h2, h3, h4, h5, q⟩ := h
  obtain ⟨as, g1⟩ := Dp.reads I _ _ _ h1 rx
  obtain ⟨bs, g2⟩ := Dp.reads I _ _ _ h2 ry
  exact PySem.W.le_data g1 g2 h3 h4 (by have : min da.depth db.depth ≤ da.depth := Nat.min_le_left _ _; omega) ⟨.bl _, H, I, rfl, q⟩
theorem op_geG (hu : X.A.units + 65 < cLine) : OpR X (compareOp .GtE) (rCmpG X.K fun a b => !PySem.W.dataLt a b) := by
  intro pins s σ H x y v u Q I rx ry h
  obtain ⟨da, db, h1, h2, h3, h4, h5, q⟩ := h
  obtain ⟨as, g1⟩ := Dp.reads I _ _ _ h1 rx
  obtain ⟨bs, g2⟩ := Dp.reads I _ _ _ h2 ry
  exact PySem.W.ge_data g1 g2 h3 h4 (by have : min da.depth db.depth ≤ da.depth := Nat.min_le_left _ _; omega) ⟨.bl _, H, I, rfl, q⟩
end
section
variable {K : PySem.W.Frag}
theorem alk_comm : (∀ (a b : D), a.alk b = b.alk a) := by
  have key : (∀ a : D, ∀ b : D, a.alk b = true → b.alk a = true) := by
    intro a
    refine D.rec (motive_1 := fun a => ∀ b : D, a.alk b = true → b.alk a = true) (motive_2 := fun as => ∀ bs : List D, alkL as bs = true → alkL bs as = true) ?_ ?_ ?_ ?_ ?_ ?_ ?_ ?_ ?_ ?_ a
    · intro b h; cases b <;> simp [D.alk] at h
    · intro _ b h; cases b <;> simp [D.alk] at h ⊢
    · intro _ b h; cases b <;> simp [D.alk] at h ⊢
    · intro _ b h; cases b <;> simp [D.alk] at h ⊢
    · intro xs ih b h; cases b <;> simp [D.alk] at h ⊢; exact ih _ h
    · intro xs ih b h; cases b <;> simp [D.alk] at h ⊢; exact ih _ h
    · intro _ _ _ _ b h; cases b <;> simp [D.alk] at h
    · intro _ b h; cases b <;> simp [D.alk] at h
    · intro bs _; cases bs <;> simp [alkL]
    · intro x xs h1 h2 bs h
      cases bs with
      | nil => simp [alkL]
      | cons y ys => simp only [alkL, Bool.and_eq_true] at h ⊢; exact ⟨h1 y h.1, h2 ys h.2⟩
  intro a b
  rw [Bool.eq_iff_iff]
  exact ⟨key a b, key b a⟩
theorem okG_use {F H : Hp} {x y : V} {a b : D} (s : Same F H) (hx : PVal K F H a x) (hy : PVal K F H b y) (h : okG a b = true) :
    Dp K H x a.py ∧ Dp K H y b.py ∧ PySem.W.alike a.py b.py = true ∧ a.py ≠ .none ∧ a.py.depth ≤ 40 ∧ PySem.W.dataLt a.py b.py = a.ltD b ∧ PySem.W.dataLt b.py a.py = b.ltD a := by
  unfold okG at h
  simp only [Bool.and_eq_true] at h
  obtain ⟨⟨h1, h2⟩, h3⟩ := h
  exact ⟨(hx.dp s h1).1, (hy.dp s h2).1, (alk_py a b h3).1, (alk_py a b h3).2, depth_py 40 a h1, lt_py 40 40 a b h1 h2 h3, lt_py 40 40 b a h2 h1 (by rw [alk_comm]; exact h3)⟩
theorem opd_ltG : OpD K (rCmpG K PySem.W.dataLt) dLtG := by
  intro F H x y c d res Q s hc hd e
  unfold dLtG at e
  split at e
  · rename_i h
    cases e
    obtain ⟨g1, g2, g3, g4, g5, g6, g7⟩ := okG_use s hc hd h
    exact ⟨fun i q => (nomatch q), fun q => ⟨_, _, g1, g2, g3, g4, g5, by rw [g6]; exact q.1 _ (by unfold R; rfl)⟩⟩
  · cases e
theorem opd_gtG : OpD K (rCmpG K fun a b => PySem.W.dataLt b a) dGtG := by
  intro F H x y c d res Q s hc hd e
  unfold dGtG at e
  split at e
  · rename_i h
    cases e
    obtain ⟨g1, g2, g3, g4, g5, g6, g7⟩ := okG_use s hc hd h
    exact ⟨fun i q => (nomatch q), fun q => ⟨_, _, g1, g2, g3, g4, g5, by show Q (V.bl (PySem.W.dataLt d.py c.py)) H; rw [g7]; exact q.1 _ (by unfold R; rfl)⟩⟩
  · cases e
theorem opd_leG : OpD K (rCmpG K fun a b => !PySem.W.dataLt b a) dLeG := by
  intro F H x y c d res Q s hc hd e
  unfold dLeG at e
  split at e
  · rename_i h
    cases e
    obtain ⟨g1, g2, g3, g4, g5, g6, g7⟩ := okG_use s hc hd h
    exact ⟨fun i q => (nomatch q), fun q => ⟨_, _, g1, g2, g3, g4, g5, by show Q (V.bl (!PySem.W.dataLt d.py c.py)) H; rw [g7]; exact q.1 _ (by unfold R; rfl)⟩⟩
  · cases e
theorem opd_geG : OpD K (rCmpG K fun a b => !PySem.W.dataLt a b) dGeG := by
  intro F H x y c d res Q s hc hd e
  unfold dGeG at e
  split at e
  · rename_i h
    cases e
    obtain ⟨g1, g2, g3, g4, g5, g6, g7⟩ := okG_use s hc hd h
    exact ⟨fun i q => (nomatch q), fun q => ⟨_, _, g1, g2, g3, g4, g5, by show Q (V.bl (!PySem.W.dataLt c.py d.py)) H; rw [g6]; exact q.1 _ (by unfold R; rfl)⟩⟩
  · cases e
end

/-! ### min, max, sorted -/
section
variable {K : PySem.W.Frag} {F H : Hp}
theorem py_inj : ∀ (n m : Nat) (a b : D), a.shal n = true → b.shal m = true → a.py = b.py → a = b := by
  intro n m a
  revert n m
  refine D.rec (motive_1 := fun a => ∀ (n m : Nat) (b : D), a.shal n = true → b.shal m = true → a.py = b.py → a = b) (motive_2 := fun as => ∀ (n m : Nat) (bs : List D), shalL n as = true → shalL m bs = true → pyL as = pyL bs → as = bs) ?_ ?_ ?_ ?_ ?_ ?_ ?_ ?_ ?_ ?_ a
  · intro n m b _ hb e; cases b <;> simp [D.py] at e ⊢ <;> cases m <;> cases hb
  · intro _ n m b _ hb e; cases b <;> simp [D.py] at e ⊢; exact e
  · intro _ n m b _ hb e; cases b <;> simp [D.py] at e ⊢; exact e
  · intro _ n m b _ hb e; cases b <;> simp [D.py] at e ⊢; exact e
  · intro xs ih n m b ha hb e
    cases b <;> simp [D.py] at e ⊢
    cases n with
    | zero => cases ha
    | succ n => cases m with
      | zero => cases hb
      | succ m => exact ih n m _ ha hb e
  · intro xs ih n m b ha hb e
    cases b <;> simp [D.py] at e ⊢
    cases n with
    | zero => cases ha
    | succ n => cases m with
      | zero => cases hb
      | succ m => exact ih n m _ ha hb e
  · intro _ _ _ _ n m b ha hb e; cases n <;> cases ha
  · intro _ n m b ha hb e; cases n <;> cases ha
  · intro n m bs _ _ e; cases bs <;> simp [pyL] at e ⊢
  · intro x xs h1 h2 n m bs ha hb e
    cases bs with
    | nil => simp [pyL] at e
    | cons y ys =>
      simp only [pyL, List.cons.injEq] at e
      simp only [shalL, Bool.and_eq_true] at ha hb
      rw [h1 n m y ha.1 hb.1 e.1, h2 n m ys ha.2 hb.2 e.2]
/-- items that may be compared with each other -/
def DpL (K : PySem.W.Frag) (H : Hp) (ps : List (V × D)) : Prop := (∀ p ∈ ps, Dp K H p.1 p.2.py ∧ p.2.shal 40 = true) ∧ ∀ p ∈ ps, ∀ q ∈ ps, okG p.2 q.2 = true
theorem DpL.alike {ps : List (V × D)} (h : DpL K H ps) {p q : V × D} (hp : p ∈ ps) (hq : q ∈ ps) : PySem.W.alike p.2.py q.2.py = true ∧ p.2.py ≠ .none ∧ PySem.W.dataLt p.2.py q.2.py = p.2.ltD q.2 := by
  have := h.2 p hp q hq
  unfold okG at this
  simp only [Bool.and_eq_true] at this
  exact ⟨(alk_py _ _ this.2).1, (alk_py _ _ this.2).2, lt_py 40 40 _ _ this.1.1 this.1.2 this.2⟩
theorem dpL_of (s : Same F H) : ∀ {ds : List D} {vs : List V}, RL K F ds vs → (∀ a ∈ ds, ∀ b ∈ ds, okG a b = true) → ∃ ps : List (V × D), vs = ps.map (·.1) ∧ ds = ps.map (·.2) ∧ ∀ p ∈ ps, R K F p.2 p.1
  | [], vs, h, _ => by unfold RL at h; subst h; exact ⟨[], rfl, rfl, fun p hp => (nomatch hp)⟩
  | d :: ds, vs, h, k => by
    unfold RL at h
    obtain ⟨v, r, rfl, h1, h2⟩ := h
    obtain ⟨ps, rfl, rfl, h3⟩ := dpL_of s h2 fun a ha b hb => k a (List.mem_cons_of_mem _ ha) b (List.mem_cons_of_mem _ hb)
    exact ⟨(v, d) :: ps, rfl, rfl, fun p hp => by
      rcases List.mem_cons.mp hp with rfl | hp
      · exact h1
      · exact h3 p hp⟩
theorem allG_use {ds : List D} (h : allG ds = true) : ∀ a ∈ ds, ∀ b ∈ ds, okG a b = true := fun a ha b hb => by
  unfold allG at h
  exact List.all_eq_true.mp (List.all_eq_true.mp h a ha) b hb
theorem dpL_ok (s : Same F H) {ps : List (V × D)} (h : ∀ p ∈ ps, R K F p.2 p.1) (k : allG (ps.map (·.2)) = true) : DpL K H ps := by
  have k2 : ∀ p ∈ ps, ∀ q ∈ ps, okG p.2 q.2 = true := fun p hp q hq => allG_use k _ (List.mem_map.mpr ⟨p, hp, rfl⟩) _ (List.mem_map.mpr ⟨q, hq, rfl⟩)
  refine ⟨fun p hp => ?_, k2⟩
  have := k2 p hp p hp
  unfold okG at this
  simp only [Bool.and_eq_true] at this
  exact ⟨(R.dp s 40 _ _ this.1.1 (h p hp)).1, this.1.1⟩
end
section
variable {X : Cx} {pins : List (Addr × Obj)} {σ : L2.St} {H : Hp} {s : Shared}
theorem each_relG : ∀ {ps : List (V × D)} {us : List Value}, Vals (ps.map (·.1)) us → PySem.W.EachIs (fun v (p : V × D) => RelV p.1 v) us ps
  | [], _, h => by cases h; exact .nil
  | p :: ps, _, h => by
    cases h with
    | cons h1 h2 => exact .cons h1 (each_relG h2)
theorem rel_eachG : ∀ {ps : List (V × D)} {us : List Value}, PySem.W.EachIs (fun v (p : V × D) => RelV p.1 v) us ps → Vals (ps.map (·.1)) us
  | [], _, h => by cases h; exact .nil
  | p :: ps, _, h => by
    cases h with
    | cons h1 h2 => exact .cons h1 (rel_eachG h2)
theorem each_readsG (I : Inv X pins σ H s) : ∀ {ps : List (V × D)} {us : List Value}, (∀ p ∈ ps, Dp X.K H p.1 p.2.py) → Vals (ps.map (·.1)) us → PySem.W.EachIs (fun v (p : V × D) => ∃ as, Reads s.heap v p.2.py as) us ps
  | [], _, _, h => by cases h; exact .nil
  | p :: ps, _, hd, h => by
    cases h with
    | cons h1 h2 => exact .cons (Dp.reads I _ _ _ (hd p List.mem_cons_self) h1) (each_readsG I (fun q hq => hd q (List.mem_cons_of_mem _ hq)) h2)
theorem readsAllG (I : Inv X pins σ H s) : ∀ {ps : List (V × D)} {us : List Value}, (∀ p ∈ ps, Dp X.K H p.1 p.2.py) → Vals (ps.map (·.1)) us → ∃ as, ReadsAll s.heap us (ps.map fun p => p.2.py) as
  | [], _, _, h => by cases h; exact ⟨_, .nil⟩
  | p :: ps, _, hd, h => by
    cases h with
    | cons h1 h2 =>
      obtain ⟨as, g1⟩ := Dp.reads I _ _ _ (hd p List.mem_cons_self) h1
      obtain ⟨bs, g2⟩ := readsAllG I (fun q hq => hd q (List.mem_cons_of_mem _ hq)) h2
      exact ⟨_, .cons g1 g2⟩
def leP2 (rev : Bool) (x y : V × D) : Bool := leG rev x.2 y.2
def rSortG (K : PySem.W.Frag) : List V → Hp → VK → Prop := fun vs H Q => ∃ (a : Addr) (ps : List (V × D)), vs = [V.ref a] ∧ SqL K H a (ps.map (·.1)) ∧ DpL K H ps ∧ ((∀ p ∈ ps, tup1 p.2 = true) ∨ ∀ p ∈ ps, notTup p.2 = true) ∧ ps.length ≤ sizeLine ∧
  ∀ p, H p = none → Q (.ref p) (L2.upd H p (.lst ((ps.mergeSort (leP2 false)).map (·.1))))
/-- the kit's order and ours, on the items at hand -/
theorem sort_same {K : PySem.W.Frag} {rev : Bool} {ps : List (V × D)} (h : DpL K H ps) : ps.mergeSort (PySem.W.dataLe rev fun p : V × D => p.2.py) = ps.mergeSort (leP2 rev) := by
  have e : ∀ p ∈ ps, ∀ q ∈ ps, PySem.W.dataLe rev (fun p : V × D => p.2.py) p q = leP2 rev p q := fun p hp q hq => by
    rw [PySem.W.dataLe_eq]
    show cond rev (!PySem.W.dataLt p.2.py q.2.py) (!PySem.W.dataLt q.2.py p.2.py) = cond rev (!p.2.ltD q.2) (!q.2.ltD p.2)
    rw [(h.alike hp hq).2.2, (h.alike hq hp).2.2]
  have := List.map_mergeSort (r := fun p q => PySem.W.dataLe rev (fun p : V × D => p.2.py) p q) (s := leP2 rev) (f := id) (l := ps) e
  simpa using this
theorem cr_sortG (hu : X.A.units + 65 < cLine) : CallR X (.builtin "sorted") (rSortG X.K) := by
  intro pins s σ H vs us Q I r h
  obtain ⟨a, ps, rfl, hs, hd, hne, hL, q⟩ := h
  obtain ⟨its, rv, hl, _⟩ := I.list hs
  rw [Vals.ref1 r]
  refine PySem.W.sorted_data (enc := fun p : V × D => p.2.py) (bs := ps) (R := fun v p => RelV p.1 v) hl.isList (each_relG rv) (each_readsG I (fun p hp => (hd.1 p hp).1) rv) (fun d hd1 e he => by
      obtain ⟨p, hp, rfl⟩ := List.mem_map.mp hd1
      obtain ⟨q, hq, rfl⟩ := List.mem_map.mp he
      exact (hd.alike hp hq).1) (by
      rcases hne with h | h
      · refine .inl fun d hd1 => ?_
        obtain ⟨p, hp, rfl⟩ := List.mem_map.mp hd1
        have h1 := h p hp
        cases e : p.2 with
        | tup xs =>
          rw [e] at h1
          cases xs with
          | nil => cases h1
          | cons x xs => exact ⟨x.py, pyL xs, by simp [D.py, pyL]⟩
        | _ => rw [e] at h1; cases h1
      · refine .inr fun d hd1 => ?_
        obtain ⟨p, hp, rfl⟩ := List.mem_map.mp hd1
        have h1 := h p hp
        refine ⟨(hd.alike hp hp).2.1, fun xs => ?_⟩
        cases e : p.2 with
        | tup xs => rw [e] at h1; cases h1
        | _ => simp [D.py]) hL (fun b hb => by
      have := depth_py 40 b.2 (hd.1 b hb).2
      omega) fun out hlo eo => ?_
  rw [sort_same hd] at eo
  obtain ⟨ep, he'⟩ := PyProof.Rows.sortedAll_at s.heap its (List.toArray out)
  have hlen : ((ps.mergeSort (leP2 false)).map (·.1)).length ≤ sizeLine := by rw [List.length_map, List.length_mergeSort]; exact hL
  exact ⟨.ref _, L2.upd H (s.heap.objs.size + 1) (.lst ((ps.mergeSort (leP2 false)).map (·.1))), I.laid (t' := s.toks) (fun _ _ => PyProof.Rows.sortedAll_old) (Nat.le_succ _) ⟨hlen, out, ep, rel_eachG eo, he'⟩, rfl, q _ (I.hok.fresh (Nat.le_succ _))⟩
def rMinG (K : PySem.W.Frag) (f : D → List D → D) : List V → Hp → VK → Prop := fun vs H Q => ∃ (a : Addr) (p : V × D) (ps : List (V × D)), vs = [V.ref a] ∧ SqL K H a ((p :: ps).map (·.1)) ∧ DpL K H (p :: ps) ∧
  ∀ q ∈ p :: ps, q.2 = f p.2 (ps.map (·.2)) → Q q.1 H
theorem minD_py {K : PySem.W.Frag} {H : Hp} : ∀ (ps : List (V × D)) (x : D) (all : List (V × D)), DpL K H all → (∃ v, (v, x) ∈ all) → (∀ p ∈ ps, p ∈ all) → PySem.W.minD x.py (ps.map fun p => p.2.py) = (minG x (ps.map (·.2))).py ∧ ∃ v, (v, minG x (ps.map (·.2))) ∈ all
  | [], x, all, h, hx, _ => ⟨rfl, hx⟩
  | p :: ps, x, all, h, ⟨v, hx⟩, hp => by
    have e := (h.alike (hp p List.mem_cons_self) hx).2.2
    unfold PySem.W.minD minG
    simp only [List.map_cons, List.foldl_cons]
    rw [show PySem.W.dataLt p.2.py x.py = p.2.ltD x from e]
    cases hc : p.2.ltD x
    · exact minD_py ps x all h ⟨v, hx⟩ fun q hq => hp q (List.mem_cons_of_mem _ hq)
    · exact minD_py ps p.2 all h ⟨p.1, hp p List.mem_cons_self⟩ fun q hq => hp q (List.mem_cons_of_mem _ hq)
theorem maxD_py {K : PySem.W.Frag} {H : Hp} : ∀ (ps : List (V × D)) (x : D) (all : List (V × D)), DpL K H all → (∃ v, (v, x) ∈ all) → (∀ p ∈ ps, p ∈ all) → PySem.W.maxD x.py (ps.map fun p => p.2.py) = (maxG x (ps.map (·.2))).py ∧ ∃ v, (v, maxG x (ps.map (·.2))) ∈ all
  | [], x, all, h, hx, _ => ⟨rfl, hx⟩
  | p :: ps, x, all, h, ⟨v, hx⟩, hp => by
    have e := (h.alike hx (hp p List.mem_cons_self)).2.2
    unfold PySem.W.maxD maxG
    simp only [List.map_cons, List.foldl_cons]
    rw [show PySem.W.dataLt x.py p.2.py = x.ltD p.2 from e]
    cases hc : x.ltD p.2
    · exact maxD_py ps x all h ⟨v, hx⟩ fun q hq => hp q (List.mem_cons_of_mem _ hq)
    · exact maxD_py ps p.2 all h ⟨p.1, hp p List.mem_cons_self⟩ fun q hq => hp q (List.mem_cons_of_mem _ hq)
theorem DpL.all {K : PySem.W.Frag} {p : V × D} {ps : List (V × D)} (h : DpL K H (p :: ps)) : PySem.W.AlikeAll (p.2.py :: ps.map fun p => p.2.py) := by
  have : p.2.py :: (ps.map fun p => p.2.py) = (p :: ps).map fun p => p.2.py := rfl
  rw [this]
  refine ⟨fun x hx y hy => ?_, fun x hx => ?_⟩
  · obtain ⟨p, hp, rfl⟩ := List.mem_map.mp hx
    obtain ⟨q, hq, rfl⟩ := List.mem_map.mp hy
    exact (h.alike hp hq).1
  · obtain ⟨p, hp, rfl⟩ := List.mem_map.mp hx
    exact (h.alike hp hp).2.1
theorem depth_all {K : PySem.W.Frag} : ∀ {ps : List (V × D)}, (∀ p ∈ ps, Dp K H p.1 p.2.py ∧ p.2.shal 40 = true) → PyData.depthAll (ps.map fun p => p.2.py) ≤ 40
  | [], _ => by simp [PyData.depthAll]
  | p :: ps, h => by
    simp only [List.map_cons, PyData.depthAll]
    exact Nat.max_le.mpr ⟨depth_py 40 _ (h p List.mem_cons_self).2, depth_all fun q hq => h q (List.mem_cons_of_mem _ hq)⟩
theorem pick_item (I : Inv X pins σ H s) {ps : List (V × D)} {its : List Value} {i : Nat} {v : Value} {m : D} {bs : List Addr} {h' : Heap} (hd : DpL X.K H ps) (rv : Vals (ps.map (·.1)) its) (hi : its[i]? = some v) (hm : m.shal 40 = true) (hr : Reads h' v m.py bs) (hk : ∀ b o, s.heap.get? b = some o → h'.get? b = some o) :
    ∃ p ∈ ps, RelV p.1 v ∧ p.2 = m := by
  obtain ⟨w, hw, rw_⟩ := vals_back rv hi
  rw [List.getElem?_map] at hw
  cases hp : ps[i]? with
  | none => rw [hp] at hw; cases hw
  | some p =>
    rw [hp] at hw
    cases hw
    have hmem : p ∈ ps := List.mem_of_getElem? hp
    obtain ⟨as, g⟩ := Dp.reads I _ _ _ (hd.1 p hmem).1 rw_
    have g' := PyProof.Rows.Reads.keeps (fun b o e => hk b o e) g
    have e := (PyProof.Rows.reads_det (fun _ _ e _ => e) g' hr).1
    exact ⟨p, hmem, rw_, py_inj 40 40 _ _ (hd.1 p hmem).2 hm e.symm⟩
theorem cr_minG (hc : X.calm = true) (hu : X.A.units + 65 < cLine) : CallR X (.builtin "min") (rMinG X.K minG) := by
  intro pins s σ H vs us Q I r h
  obtain ⟨a, p, ps, rfl, hs, hd, q⟩ := h
  obtain ⟨its, rv, hl, _⟩ := I.list hs
  rw [Vals.ref1 r]
  obtain ⟨as, hr⟩ := readsAllG I (fun p hp => (hd.1 p hp).1) rv
  obtain ⟨e, v0, hm⟩ := minD_py ps p.2 (p :: ps) hd ⟨p.1, List.mem_cons_self⟩ fun q hq => List.mem_cons_of_mem _ hq
  refine PySem.W.min_list_data (x := p.2.py) (xs := ps.map fun p => p.2.py) (as := as) (I.ok.hd hc) hl.isList (by rw [List.toList_toArray]; exact hr) hd.all (by have := depth_all hd.1; simp only [List.map_cons] at this; omega) fun i v h' tk bs hi hv hk => ?_
  have hi' : its[i]? = some v := by simpa using hi
  rw [e] at hv
  obtain ⟨p', h1, h2, h3⟩ := pick_item I hd rv hi' (hd.1 _ hm).2 hv hk
  exact ⟨p'.1, H, I.kept hk, h2, q p' h1 h3⟩
theorem cr_maxG (hc : X.calm = true) (hu : X.A.units + 65 < cLine) : CallR X (.builtin "max") (rMinG X.K maxG) := by
  intro pins s σ H vs us Q I r h
  obtain ⟨a, p, ps, rfl, hs, hd, q⟩ := h
  obtain ⟨its, rv, hl, _⟩ := I.list hs
  rw [Vals.ref1 r]
  obtain ⟨as, hr⟩ := readsAllG I (fun p hp => (hd.1 p hp).1) rv
  obtain ⟨e, v0, hm⟩ := maxD_py ps p.2 (p :: ps) hd ⟨p.1, List.mem_cons_self⟩ fun q hq => List.mem_cons_of_mem _ hq
  refine PySem.W.max_list_data (x := p.2.py) (xs := ps.map fun p => p.2.py) (as := as) (I.ok.hd hc) hl.isList (by rw [List.toList_toArray]; exact hr) hd.all (by have := depth_all hd.1; simp only [List.map_cons] at this; omega) fun i v h' tk bs hi hv hk => ?_
  have hi' : its[i]? = some v := by simpa using hi
  rw [e] at hv
  obtain ⟨p', h1, h2, h3⟩ := pick_item I hd rv hi' (hd.1 _ hm).2 hv hk
  exact ⟨p'.1, H, I.kept hk, h2, q p' h1 h3⟩
end
section
variable {K : PySem.W.Frag}
theorem cd_minG : CallD K (rMinG K minG) dMinG := by
  intro F H xs cs res Q s hc e
  unfold dMinG at e
  split at e
  · rename_i d ds
    split at e
    · rename_i hg
      cases e
      obtain ⟨v, rfl, hv⟩ := hc.one
      obtain ⟨a, vs, rfl, h1, h2⟩ := hv.lst s
      obtain ⟨ps, rfl, hds, h3⟩ := dpL_of s h2 (allG_use hg)
      cases ps with
      | nil => cases hds
      | cons p ps =>
        rw [List.map_cons] at hds
        cases hds
        have hd := dpL_ok s h3 (show allG ((p :: ps).map (·.2)) = true from hg)
        exact ⟨fun i q => (nomatch q), fun q => ⟨a, p, ps, rfl, SqL.of h1, hd, fun p' hp' e' => q.1 _ (by rw [← e']; exact h3 p' hp')⟩⟩
    · cases e
  · cases e
theorem cd_maxG : CallD K (rMinG K maxG) dMaxG := by
  intro F H xs cs res Q s hc e
  unfold dMaxG at e
  split at e
  · rename_i d ds
    split at e
    · rename_i hg
      cases e
      obtain ⟨v, rfl, hv⟩ := hc.one
      obtain ⟨a, vs, rfl, h1, h2⟩ := hv.lst s
      obtain ⟨ps, rfl, hds, h3⟩ := dpL_of s h2 (allG_use hg)
      cases ps with
      | nil => cases hds
      | cons p ps =>
        rw [List.map_cons] at hds
        cases hds
        have hd := dpL_ok s h3 (show allG ((p :: ps).map (·.2)) = true from hg)
        exact ⟨fun i q => (nomatch q), fun q => ⟨a, p, ps, rfl, SqL.of h1, hd, fun p' hp' e' => q.1 _ (by rw [← e']; exact h3 p' hp')⟩⟩
    · cases e
  · cases e
theorem RL.ofPs {F : Hp} : ∀ {ps : List (V × D)}, (∀ p ∈ ps, R K F p.2 p.1) → RL K F (ps.map (·.2)) (ps.map (·.1))
  | [], _ => RL.nil
  | p :: ps, h => RL.cons (h p List.mem_cons_self) (RL.ofPs fun q hq => h q (List.mem_cons_of_mem _ hq))
theorem cd_sortG : CallD K (rSortG K) (dSortG false) := by
  intro F H xs cs res Q s hc e
  unfold dSortG at e
  split at e
  · rename_i ds
    split at e
    · rename_i hg
      obtain ⟨hg, ht, hl⟩ := hg
      cases e
      obtain ⟨v, rfl, hv⟩ := hc.one
      obtain ⟨a, vs, rfl, h1, h2⟩ := hv.lst s
      obtain ⟨ps, rfl, rfl, h3⟩ := dpL_of s h2 (allG_use hg)
      have hd := dpL_ok s h3 hg
      refine ⟨fun i q => (nomatch q), fun q => ⟨a, ps, rfl, SqL.of h1, hd, ?_, by rw [sizeLine_eq]; simpa using hl, fun p hp => ?_⟩⟩
      · rcases ht with ht | ht
        · exact .inl fun p hp => List.all_eq_true.mp ht _ (List.mem_map.mpr ⟨p, hp, rfl⟩)
        · exact .inr fun p hp => List.all_eq_true.mp ht _ (List.mem_map.mpr ⟨p, hp, rfl⟩)
      · have e1 : sortG false (ps.map (·.2)) = (ps.mergeSort (leP2 false)).map (·.2) := by
          unfold sortG
          exact (List.map_mergeSort (r := leP2 false) (s := leG false) (f := fun x : V × D => x.2) (l := ps) (fun a _ b _ => rfl)).symm
        rw [e1] at q
        exact q p (.lst ((ps.mergeSort (leP2 false)).map (·.1))) hp (show RL K F _ _ from RL.ofPs fun z hz => h3 z ((List.mergeSort_perm ps (leP2 false)).mem_iff.1 hz))
    · cases e
  · cases e
end
end PV
end

section
set_option autoImplicit false
namespace LAW
open PV
def c0_is_meeting_row : E := (eLc (iVal (eVar 0)) (.nm 1) tTrue (eBin dIn (eVar 1) (eTup (eCons (eC (.str [119])) (eCons (eC (.str [108])) eNil)))) [1])
def g_is_meeting_row : S := (sRet (eAnd (eChain dLe dLe (eC (.int 1)) (eB dLen (eCons (eVar 0) eNil)) (eC (.int 8))) (eB dAll (eCons c0_is_meeting_row eNil))))
def F_is_meeting_row : Fn := fnOf 2 g_is_meeting_row

def b0_check_meeting : S := (sIf (tOr (tNot (tE (eCall F_is_meeting_row [false] (eCons (eVar 2) eNil)))) (tB (eBin dNe (eB dLen (eCons (eVar 2) eNil)) (eB dLen (eCons (eBin dIdx (eVar 0) (eC (.int 0))) eNil)))))
  (sRaise 0 (eCons (eVar 1) eNil))
  sPass)
def o0_check_meeting : S := (sFor (PV.iEnumV (eVar 0)) (.tp [(.nm 1), (.nm 2)])
  b0_check_meeting)
def g_check_meeting : S := (sSeq (sIf (tNot (tB (eChain dLe dLe (eC (.int 1)) (eB dLen (eCons (eVar 0) eNil)) (eC (.int 8)))))
  (sRaise 0 (eCons (eUn dNeg (eC (.int 1))) eNil))
  sPass)
  o0_check_meeting)
def F_check_meeting : Fn := fnOf 3 g_check_meeting

def c0_wins_of_both : E := (eLc (iVal (eVar 0)) (.nm 2) tTrue (eMeth isS mCountS (eVar 2) (eCons (eC (.str [119])) eNil)) [2])
def c1_wins_of_both : E := (eLc (iVal (eVar 0)) (.nm 2) (tB (eBin dEq (eBin dIdx (eVar 2) (eVar 4)) (eC (.str [108])))) (eVar 2) [2])
def c2_wins_of_both : E := (eLc (iRange1 (eB dLen (eCons (eBin dIdx (eVar 0) (eC (.int 0))) eNil))) (.nm 4) tTrue (eB dLen (eCons c1_wins_of_both eNil)) [4])
def g_wins_of_both : S := (sSeq (sSet 1 c0_wins_of_both)
  (sSeq (sSet 3 c2_wins_of_both)
  (sRet (eTupT (eCons (eVar 1) (eCons (eVar 3) eNil))))))
def F_wins_of_both : Fn := fnOf 5 g_wins_of_both

def g_l_feed : S := (sRet (eLst (eCons (eB dList (eCons (eVar 0) eNil)) (eCons (eC (.int 0)) (eCons (eC (.int 0)) (eCons (eC (.int 1)) eNil))))))
def F_l_feed : Fn := fnOf 1 g_l_feed

def g_l_draw : S := (sSeq (sIf (tAnd (tB (eBin dEq (eBin dIdx (eVar 0) (eC (.int 2))) (eC (.int 0)))) (tB (eBin dLt (eBin dIdx (eVar 0) (eC (.int 1))) (eB dLen (eCons (eBin dIdx (eVar 0) (eC (.int 0))) eNil)))))
  (sSeq (sSet 2 (eB dAbs (eCons (eB dInt (eCons (eBin dIdx (eBin dIdx (eVar 0) (eC (.int 0))) (eBin dIdx (eVar 0) (eC (.int 1)))) eNil)) eNil)))
  (sSeq (sAugIx getL addI setL (eVar 0) (eC (.int 1)) (eC (.int 1)))
  (sIf (tB (eBin dGe (eVar 2) (eBin dPow (eC (.int 10)) (eC (.int 18)))))
  (sSetIx setL (eVar 0) (eC (.int 2)) (eVar 2))
  (sSetIx setL (eVar 0) (eC (.int 3)) (eBin dMod (eB dInt (eCons (eBin dAdd (eBin dAdd (eBin dMul (eBin dIdx (eVar 0) (eC (.int 3))) (eC (.int 48271))) (eBin dMul (eVar 2) (eC (.int 69621)))) (eBin dIdx (eVar 0) (eC (.int 1)))) eNil)) (eC (.int 2147483647)))))))
  sPass)
  (sSeq (sIf (tB (eBin dGt (eBin dIdx (eVar 0) (eC (.int 2))) (eC (.int 0))))
  (sSeq (sSet 3 (eBin dMod (eB dInt (eCons (eBin dIdx (eVar 0) (eC (.int 2))) eNil)) (eVar 1)))
  (sSeq (sSetIx setL (eVar 0) (eC (.int 2)) (eBin dDiv (eBin dIdx (eVar 0) (eC (.int 2))) (eVar 1)))
  (sRet (eVar 3))))
  sPass)
  (sSeq (sSetIx setL (eVar 0) (eC (.int 3)) (eBin dMod (eB dInt (eCons (eBin dAdd (eBin dMul (eBin dIdx (eVar 0) (eC (.int 3))) (eC (.int 16807))) (eC (.int 12345))) eNil)) (eC (.int 2147483647))))
  (sSeq (sSet 4 (eBin dMod (eB dInt (eCons (eBin dAdd (eBin dMul (eBin dIdx (eVar 0) (eC (.int 3))) (eBin dIdx (eVar 0) (eC (.int 3)))) (eBin dIdx (eVar 0) (eC (.int 3)))) eNil)) (eC (.int 2147483629))))
  (sRet (eBin dMod (eBin dDiv (eVar 4) (eC (.int 11))) (eVar 1)))))))
def F_l_draw : Fn := fnOf 5 g_l_draw

def g_l_is_whole : S := (sRet (eAnd (eUn (dIsi .int) (eVar 0)) (eNot (eUn (dIsi .bool) (eVar 0)))))
def F_l_is_whole : Fn := fnOf 1 g_l_is_whole

def c0_l_meeting : E := (eLc (iRange1 (eVar 2)) (.nm 4) tTrue (eBin dIdx (eLst (eCons (eC (.str [108])) (eCons (eC (.str [119])) eNil))) (eB dInt (eCons (eBin dLt (eCall F_l_draw [true, false] (eCons (eVar 0) (eCons (eC (.int 4)) eNil))) (eVar 3)) eNil))) [4])
def c1_l_meeting : E := (eLc (iRange1 (eVar 1)) (.nm 5) tTrue (eMeth isS mJoin (eC (.str [])) (eCons c0_l_meeting eNil)) [5])
def g_l_meeting : S := (sSeq (sSet 3 (eCall F_l_draw [true, false] (eCons (eVar 0) (eCons (eC (.int 5)) eNil))))
  (sRet c1_l_meeting))
def F_l_meeting : Fn := fnOf 6 g_l_meeting

def c0_l_fault : E := (eLc (iVal (eBin dIdx (eVar 0) (eVar 1))) (.nm 2) (tB (eBin dNotIn (eVar 2) (eLst (eCons (eC (.str [119])) (eCons (eC (.str [108])) eNil))))) (eVar 2) [2])
def b0_l_fault : S := (sSeq (sIf (tOr (tNot (tB (eChain dLe dLe (eC (.int 1)) (eB dLen (eCons (eBin dIdx (eVar 0) (eVar 1)) eNil)) (eC (.int 8))))) (tB (eBin dNe (eB dLen (eCons (eBin dIdx (eVar 0) (eVar 1)) eNil)) (eB dLen (eCons (eBin dIdx (eVar 0) (eC (.int 0))) eNil)))))
  (sRet (eVar 1))
  sPass)
  (sIf (tB (eBin dGt (eB dLen (eCons c0_l_fault eNil)) (eC (.int 0))))
  (sRet (eVar 1))
  sPass))
def o0_l_fault : S := (sFor (iRange1 (eB dLen (eCons (eVar 0) eNil))) (.nm 1)
  b0_l_fault)
def g_l_fault : S := (sSeq (sIf (tNot (tB (eChain dLe dLe (eC (.int 1)) (eB dLen (eCons (eVar 0) eNil)) (eC (.int 8)))))
  (sRet (eUn dNeg (eC (.int 1))))
  sPass)
  (sSeq o0_l_fault
  (sRet (eC .non))))
def F_l_fault : Fn := fnOf 3 g_l_fault

def c0_l_wins : E := (eLc (iVal (eVar 3)) (.nm 2) (tB (eBin dEq (eVar 2) (eC (.str [119])))) (eVar 2) [2])
def c1_l_wins : E := (eLc (iVal (eVar 0)) (.nm 3) tTrue (eB dLen (eCons c0_l_wins eNil)) [3])
def b0_l_wins : S := (sIf (tB (eBin dEq (eBin dIdx (eVar 3) (eVar 5)) (eC (.str [108]))))
  (sAugIx getL addI setL (eVar 4) (eVar 5) (eC (.int 1)))
  sPass)
def o0_l_wins : S := (sFor (iRange1 (eB dLen (eCons (eVar 3) eNil))) (.nm 5)
  b0_l_wins)
def b1_l_wins : S := o0_l_wins
def o1_l_wins : S := (sFor (iVal (eVar 0)) (.nm 3)
  b1_l_wins)
def g_l_wins : S := (sSeq (sSet 1 c1_l_wins)
  (sSeq (sSet 4 (eBin dMul (eLst (eCons (eC (.int 0)) eNil)) (eB dLen (eCons (eBin dIdx (eVar 0) (eC (.int 0))) eNil))))
  (sSeq o1_l_wins
  (sRet (eTup (eCons (eVar 1) (eCons (eVar 4) eNil)))))))
def F_l_wins : Fn := fnOf 6 g_l_wins

def g_l_checked : S := (sSeq (sSet 1 (eB dList (eCons (eVar 0) eNil)))
  (sSeq (sSet 2 (eCall F_l_fault [false] (eCons (eVar 0) eNil)))
  (sSeq (sTry (sSetO 3 (eCallO F_check_meeting [false] (eCons (eVar 1) eNil)))
  (fun c => [true, true][c]?) 4
  (sSeq (sIf (tOr (tNot (tE (eExIs 4 (fun c => [true, false][c]?)))) (tOr (tE (eExIs 4 (fun c => [false, true][c]?))) (tNot (tE (eExIs 4 (fun c => [true, true][c]?))))))
  (sRet (eC (.bl false)))
  sPass)
  (sRet (eAnd (eBin dNotN (eVar 2) (eC .non)) (eAnd (eCall F_l_is_whole [false] (eCons (eExF 4 (fun c => ([some 0, some 0] : List (Option Nat)).getD c none)) eNil)) (eAnd (eBin dEq (eExF 4 (fun c => ([some 0, some 0] : List (Option Nat)).getD c none)) (eVar 2)) (eBin dEq (eVar 1) (eVar 0))))))))
  (sRet (eAnd (eBin dIsN (eVar 2) (eC .non)) (eAnd (eBin dIsN (eVar 3) (eC .non)) (eBin dEq (eVar 1) (eVar 0))))))))
def F_l_checked : Fn := fnOf 5 g_l_checked

def c0_l_counted : E := (eLc (iVal (eBin dAdd (eBin dIdx (eVar 2) (eC (.int 0))) (eBin dIdx (eVar 2) (eC (.int 1))))) (.nm 3) (tE (eCall F_l_is_whole [false] (eCons (eVar 3) eNil))) (eVar 3) [3])
def g_l_counted : S := (sSeq (sSet 1 (eB dList (eCons (eVar 0) eNil)))
  (sSeq (sSet 2 (eCall F_wins_of_both [false] (eCons (eVar 1) eNil)))
  (sSeq (sIf (tOr (tB (eBin dNe (eVar 1) (eVar 0))) (tOr (tNot (tPure (tE (eUn (dIsi .tuple) (eVar 2))))) (tPure (tB (eBin dNe (eVar 2) (eCall F_l_wins [false] (eCons (eVar 0) eNil)))))))
  (sRet (eC (.bl false)))
  sPass)
  (sSeq (sIf (tPure (tB (eBin dNe (eB dLen (eCons c0_l_counted eNil)) (eBin dAdd (eB dLen (eCons (eVar 0) eNil)) (eB dLen (eCons (eBin dIdx (eVar 0) (eC (.int 0))) eNil))))))
  (sRet (eC (.bl false)))
  sPass)
  (sSeq (sSet 4 (eTake 2 (eC (.int 0))))
  (sSeq (sExpr (eMut isL mAppend (eVar 4) (eCons (eC (.int 1)) eNil)))
  (sRet (eBin dEq (eFz (eCall F_wins_of_both [false] (eCons (eVar 1) eNil))) (eCall F_l_wins [false] (eCons (eVar 0) eNil))))))))))
def F_l_counted : Fn := fnOf 5 g_l_counted

def b0_l_near : S := (sExpr (eMut isL mAppend (eVar 5) (eCons (eBin dAdd (eBin dAdd (eCut (eVar 1) pNo (pAt (eVar 2))) (eLst (eCons (eVar 6) eNil))) (eCut (eVar 1) (pAt (eBin dAdd (eVar 2) (eC (.int 1)))) pNo)) eNil)))
def o0_l_near : S := (sFor (iVal (eLst (eCons (eBin dAdd (eVar 3) (eC (.str [119]))) (eCons (eCut (eVar 3) (pAt (eC (.int 1))) pNo) (eCons (eC (.str [])) (eCons (eBin dMulS (eC (.str [119])) (eC (.int 8))) (eCons (eBin dMulS (eC (.str [108])) (eC (.int 9))) (eCons (eMeth isS mUpper (eVar 3) eNil) (eCons (eBin dAdd (eVar 3) (eC (.str [32]))) eNil))))))))) (.nm 6)
  b0_l_near)
def b1_l_near : S := (sExpr (eMut isL mAppend (eVar 5) (eCons (eBin dAdd (eBin dAdd (eCut (eVar 1) pNo (pAt (eVar 2))) (eLst (eCons (eBin dAdd (eBin dAdd (eCut (eVar 3) pNo (pAt (eVar 4))) (eVar 7)) (eCut (eVar 3) (pAt (eBin dAdd (eVar 4) (eC (.int 1)))) pNo)) eNil))) (eCut (eVar 1) (pAt (eBin dAdd (eVar 2) (eC (.int 1)))) pNo)) eNil)))
def o1_l_near : S := (sFor (iVal (eLst (eCons (eC (.str [119])) (eCons (eC (.str [108])) (eCons (eC (.str [45])) (eCons (eC (.str [63])) (eCons (eC (.str [100])) (eCons (eC (.str [87])) (eCons (eC (.str [32])) (eCons (eC (.str [49])) eNil)))))))))) (.nm 7)
  b1_l_near)
def g_l_near : S := (sSeq (sSet 2 (eCall F_l_draw [true, false] (eCons (eVar 0) (eCons (eB dLen (eCons (eVar 1) eNil)) eNil))))
  (sSeq (sSet 3 (eBin dIdx (eVar 1) (eVar 2)))
  (sSeq (sSet 4 (eCall F_l_draw [true, false] (eCons (eVar 0) (eCons (eB dLen (eCons (eVar 3) eNil)) eNil))))
  (sSeq (sSet 5 (eLst (eCons (eVar 1) (eCons (eBin dAdd (eCut (eVar 1) pNo (pAt (eVar 2))) (eCut (eVar 1) (pAt (eBin dAdd (eVar 2) (eC (.int 1)))) pNo)) (eCons (eBin dAdd (eVar 1) (eLst (eCons (eVar 3) eNil))) (eCons (eBin dAdd (eVar 1) (eBin dMul (eLst (eCons (eBin dMulS (eC (.str [119])) (eB dLen (eCons (eVar 3) eNil))) eNil)) (eBin dSub (eC (.int 9)) (eB dLen (eCons (eVar 1) eNil))))) (eCons (eLst eNil) eNil)))))))
  (sSeq o0_l_near
  (sSeq o1_l_near
  (sRet (eVar 5))))))))
def F_l_near : Fn := fnOf 8 g_l_near

def b0_law : S := (sSeq (sIf (tNot (tE (eCall F_l_checked [false] (eCons (eVar 5) eNil))))
  (sRet (eC (.bl false)))
  sPass)
  (sIf (tAnd (tB (eBin dIsN (eCall F_l_fault [false] (eCons (eVar 5) eNil)) (eC .non))) (tNot (tE (eCall F_l_counted [false] (eCons (eVar 5) eNil)))))
  (sRet (eC (.bl false)))
  sPass))
def o0_law : S := (sFor (iVal (eCall F_l_near [true, false] (eCons (eVar 1) (eCons (eVar 4) eNil)))) (.nm 5)
  b0_law)
def c0_law : E := (eLc (iRange1 (eCall F_l_draw [true, false] (eCons (eVar 1) (eCons (eC (.int 11)) eNil)))) (.nm 7) tTrue (eBin dMulS (eC (.str [119])) (eBin dAdd (eC (.int 1)) (eCall F_l_draw [true, false] (eCons (eVar 1) (eCons (eC (.int 9)) eNil))))) [7])
def b1_law : S := (sSeq (sSet 4 (eCall F_l_meeting [true, false, false] (eCons (eVar 1) (eCons (eBin dAdd (eC (.int 1)) (eCall F_l_draw [true, false] (eCons (eVar 1) (eCons (eVar 2) eNil)))) (eCons (eBin dAdd (eC (.int 1)) (eCall F_l_draw [true, false] (eCons (eVar 1) (eCons (eVar 2) eNil)))) eNil)))))
  (sSeq (sIf (tOr (tNot (tE (eCall F_l_checked [false] (eCons (eVar 4) eNil)))) (tNot (tE (eCall F_l_counted [false] (eCons (eVar 4) eNil)))))
  (sRet (eC (.bl false)))
  sPass)
  (sSeq o0_law
  (sSeq (sSet 6 c0_law)
  (sSeq (sIf (tNot (tE (eCall F_l_checked [false] (eCons (eVar 6) eNil))))
  (sRet (eC (.bl false)))
  sPass)
  (sSeq (sSet 8 (eBin dAdd (eC (.int 1)) (eCall F_l_draw [true, false] (eCons (eVar 1) (eCons (eC (.int 9)) eNil)))))
  (sIf (tNot (tE (eCall F_l_checked [false] (eCons (eBin dMul (eLst (eCons (eCut (eBin dMulS (eC (.str [119, 108])) (eC (.int 5))) pNo (pAt (eVar 8))) eNil)) (eBin dAdd (eC (.int 1)) (eCall F_l_draw [true, false] (eCons (eVar 1) (eCons (eC (.int 9)) eNil))))) eNil))))
  (sRet (eC (.bl false)))
  sPass)))))))
def o1_law : S := (sFor (iRange1 (eC (.int 3))) (.nm 3)
  b1_law)
def g_law : S := (sSeq (sSet 1 (eCall F_l_feed [false] (eCons (eVar 0) eNil)))
  (sSeq (sSet 2 (eC (.int 4)))
  (sSeq (sIf (tB (eBin dEq (eCall F_l_draw [true, false] (eCons (eVar 1) (eCons (eC (.int 5)) eNil))) (eC (.int 0))))
  (sSet 2 (eC (.int 8)))
  sPass)
  (sSeq o1_law
  (sRet (eAnd (eBin dEq (eFz (eCall F_wins_of_both [false] (eCons (eLst (eCons (eC (.str [119, 119, 108])) (eCons (eC (.str [108, 108, 108])) eNil))) eNil))) (eTup (eCons (eLst (eCons (eC (.int 2)) (eCons (eC (.int 0)) eNil))) (eCons (eLst (eCons (eC (.int 1)) (eCons (eC (.int 1)) (eCons (eC (.int 2)) eNil)))) eNil)))) (eCall F_l_checked [false] (eCons (eBin dMul (eLst (eCons (eBin dMulS (eC (.str [119])) (eC (.int 8))) eNil)) (eC (.int 8))) eNil))))))))
def F_law : Fn := fnOf 9 g_law

end LAW
end

section
set_option maxRecDepth 100000
set_option maxHeartbeats 4000000
namespace LAW
open PySem PySem.Spec PyProof.Rows L2 PV
variable [CodeTabs]
/-! ### the text -/
def topS (i : Nat) : Stmt := PySem.Challenge.pw_tablesplayed_k86_meetings_checked.main.body.getD i (.Pass ⟨0, 0, 0, 0⟩)
theorem st0 : (Str.ofString "w") = ⟨([119] : List Nat).toArray⟩ := by decide +kernel
theorem st1 : (Str.ofString "l") = ⟨([108] : List Nat).toArray⟩ := by decide +kernel
theorem st2 : (Str.ofString "") = ⟨([] : List Nat).toArray⟩ := by decide +kernel
theorem st3 : (Str.ofString " ") = ⟨([32] : List Nat).toArray⟩ := by decide +kernel
theorem st4 : (Str.ofString "-") = ⟨([45] : List Nat).toArray⟩ := by decide +kernel
theorem st5 : (Str.ofString "?") = ⟨([63] : List Nat).toArray⟩ := by decide +kernel
theorem st6 : (Str.ofString "d") = ⟨([100] : List Nat).toArray⟩ := by decide +kernel
theorem st7 : (Str.ofString "W") = ⟨([87] : List Nat).toArray⟩ := by decide +kernel
theorem st8 : (Str.ofString "1") = ⟨([49] : List Nat).toArray⟩ := by decide +kernel
theorem st9 : (Str.ofString "wl") = ⟨([119, 108] : List Nat).toArray⟩ := by decide +kernel
theorem st10 : (Str.ofString "wwl") = ⟨([119, 119, 108] : List Nat).toArray⟩ := by decide +kernel
theorem st11 : (Str.ofString "lll") = ⟨([108, 108, 108] : List Nat).toArray⟩ := by decide +kernel
abbrev s_is_meeting_row : Stmt := topS 6
theorem sc_is_meeting_row : FnScope ["row", "sign"] ["row"] (defScope s_is_meeting_row) := ⟨rfl, rfl, rfl, by decide +kernel, rfl, by decide +kernel, by decide +kernel⟩
abbrev s_check_meeting : Stmt := topS 7
theorem sc_check_meeting : FnScope ["rows", "at", "row"] ["rows"] (defScope s_check_meeting) := ⟨rfl, rfl, rfl, by decide +kernel, rfl, by decide +kernel, by decide +kernel⟩
abbrev s_wins_of_both : Stmt := topS 8
theorem sc_wins_of_both : FnScope ["rows", "first", "row", "second", "k"] ["rows"] (defScope s_wins_of_both) := ⟨rfl, rfl, rfl, by decide +kernel, rfl, by decide +kernel, by decide +kernel⟩
abbrev s_l_feed : Stmt := topS 10
theorem sc_l_feed : FnScope ["script"] ["script"] (defScope s_l_feed) := ⟨rfl, rfl, rfl, by decide +kernel, rfl, by decide +kernel, by decide +kernel⟩
abbrev s_l_draw : Stmt := topS 11
theorem sc_l_draw : FnScope ["feed", "many", "cell", "told", "mixed"] ["feed", "many"] (defScope s_l_draw) := ⟨rfl, rfl, rfl, by decide +kernel, rfl, by decide +kernel, by decide +kernel⟩
abbrev s_l_is_whole : Stmt := topS 12
theorem sc_l_is_whole : FnScope ["x"] ["x"] (defScope s_l_is_whole) := ⟨rfl, rfl, rfl, by decide +kernel, rfl, by decide +kernel, by decide +kernel⟩
abbrev s_l_meeting : Stmt := topS 13
theorem sc_l_meeting : FnScope ["feed", "a", "b", "share", "k", "i"] ["feed", "a", "b"] (defScope s_l_meeting) := ⟨rfl, rfl, rfl, by decide +kernel, rfl, by decide +kernel, by decide +kernel⟩
abbrev s_l_fault : Stmt := topS 14
theorem sc_l_fault : FnScope ["rows", "at", "sign"] ["rows"] (defScope s_l_fault) := ⟨rfl, rfl, rfl, by decide +kernel, rfl, by decide +kernel, by decide +kernel⟩
abbrev s_l_wins : Stmt := topS 15
theorem sc_l_wins : FnScope ["rows", "first", "sign", "row", "second", "k"] ["rows"] (defScope s_l_wins) := ⟨rfl, rfl, rfl, by decide +kernel, rfl, by decide +kernel, by decide +kernel⟩
abbrev s_l_checked : Stmt := topS 16
theorem sc_l_checked : FnScope ["rows", "mine", "due", "told", "e"] ["rows"] (defScope s_l_checked) := ⟨rfl, rfl, rfl, by decide +kernel, rfl, by decide +kernel, by decide +kernel⟩
abbrev s_l_counted : Stmt := topS 17
theorem sc_l_counted : FnScope ["rows", "mine", "told", "x", "spoilt"] ["rows"] (defScope s_l_counted) := ⟨rfl, rfl, rfl, by decide +kernel, rfl, by decide +kernel, by decide +kernel⟩
abbrev s_l_near : Stmt := topS 18
theorem sc_l_near : FnScope ["feed", "rows", "at", "row", "place", "found", "one", "sign"] ["feed", "rows"] (defScope s_l_near) := ⟨rfl, rfl, rfl, by decide +kernel, rfl, by decide +kernel, by decide +kernel⟩
abbrev s_law : Stmt := topS 19
theorem sc_law : FnScope ["script", "feed", "most", "turn", "rows", "paper", "other", "k", "size"] ["script"] (defScope s_law) := ⟨rfl, rfl, rfl, by decide +kernel, rfl, by decide +kernel, by decide +kernel⟩
def clsInit (i j : Nat) : Stmt := match topS i with
  | .ClassDef _ _ _ b _ _ _ _ _ _ _ => b.getD j (.Pass ⟨0, 0, 0, 0⟩)
  | _ => .Pass ⟨0, 0, 0, 0⟩
abbrev si_BadTable : Stmt := clsInit 2 0
theorem sci_BadTable : FnScope ["self", "at"] ["self", "at"] (defScope si_BadTable) := ⟨rfl, rfl, rfl, by decide +kernel, rfl, by decide +kernel, by decide +kernel⟩
abbrev si_BadScores : Stmt := clsInit 3 0
theorem sci_BadScores : FnScope ["self", "at"] ["self", "at"] (defScope si_BadScores) := ⟨rfl, rfl, rfl, by decide +kernel, rfl, by decide +kernel, by decide +kernel⟩
structure Txt (w : World) (K : PySem.W.Frag) (mg : Str → Option Value) where
  f_is_meeting_row : Addr
  fd_is_meeting_row : FuncData
  F_is_meeting_row : Fun K "is_meeting_row" "is_meeting_row" s_is_meeting_row f_is_meeting_row fd_is_meeting_row
  b_is_meeting_row : Binds K fd_is_meeting_row ["row"] []
  g_is_meeting_row : mg "is_meeting_row" = some (.ref f_is_meeting_row)
  f_check_meeting : Addr
  fd_check_meeting : FuncData
  F_check_meeting : Fun K "check_meeting" "check_meeting" s_check_meeting f_check_meeting fd_check_meeting
  b_check_meeting : Binds K fd_check_meeting ["rows"] []
  g_check_meeting : mg "check_meeting" = some (.ref f_check_meeting)
  f_wins_of_both : Addr
  fd_wins_of_both : FuncData
  F_wins_of_both : Fun K "wins_of_both" "wins_of_both" s_wins_of_both f_wins_of_both fd_wins_of_both
  b_wins_of_both : Binds K fd_wins_of_both ["rows"] []
  g_wins_of_both : mg "wins_of_both" = some (.ref f_wins_of_both)
  f_l_feed : Addr
  fd_l_feed : FuncData
  F_l_feed : Fun K "_law_feed" "_law_feed" s_l_feed f_l_feed fd_l_feed
  b_l_feed : Binds K fd_l_feed ["script"] []
  g_l_feed : mg "_law_feed" = some (.ref f_l_feed)
  f_l_draw : Addr
  fd_l_draw : FuncData
  F_l_draw : Fun K "_law_draw" "_law_draw" s_l_draw f_l_draw fd_l_draw
  b_l_draw : Binds K fd_l_draw ["feed", "many"] []
  g_l_draw : mg "_law_draw" = some (.ref f_l_draw)
  f_l_is_whole : Addr
  fd_l_is_whole : FuncData
  F_l_is_whole : Fun K "_law_is_whole" "_law_is_whole" s_l_is_whole f_l_is_whole fd_l_is_whole
  b_l_is_whole : Binds K fd_l_is_whole ["x"] []
  g_l_is_whole : mg "_law_is_whole" = some (.ref f_l_is_whole)
  f_l_meeting : Addr
  fd_l_meeting : FuncData
  F_l_meeting : Fun K "_law_meeting" "_law_meeting" s_l_meeting f_l_meeting fd_l_meeting
  b_l_meeting : Binds K fd_l_meeting ["feed", "a", "b"] []
  g_l_meeting : mg "_law_meeting" = some (.ref f_l_meeting)
  f_l_fault : Addr
  fd_l_fault : FuncData
  F_l_fault : Fun K "_law_fault" "_law_fault" s_l_fault f_l_fault fd_l_fault
  b_l_fault : Binds K fd_l_fault ["rows"] []
  g_l_fault : mg "_law_fault" = some (.ref f_l_fault)
  f_l_wins : Addr
  fd_l_wins : FuncData
  F_l_wins : Fun K "_law_wins" "_law_wins" s_l_wins f_l_wins fd_l_wins
  b_l_wins : Binds K fd_l_wins ["rows"] []
  g_l_wins : mg "_law_wins" = some (.ref f_l_wins)
  f_l_checked : Addr
  fd_l_checked : FuncData
  F_l_checked : Fun K "_law_checked" "_law_checked" s_l_checked f_l_checked fd_l_checked
  b_l_checked : Binds K fd_l_checked ["rows"] []
  g_l_checked : mg "_law_checked" = some (.ref f_l_checked)
  f_l_counted : Addr
  fd_l_counted : FuncData
  F_l_counted : Fun K "_law_counted" "_law_counted" s_l_counted f_l_counted fd_l_counted
  b_l_counted : Binds K fd_l_counted ["rows"] []
  g_l_counted : mg "_law_counted" = some (.ref f_l_counted)
  f_l_near : Addr
  fd_l_near : FuncData
  F_l_near : Fun K "_law_near" "_law_near" s_l_near f_l_near fd_l_near
  b_l_near : Binds K fd_l_near ["feed", "rows"] []
  g_l_near : mg "_law_near" = some (.ref f_l_near)
  f_law : Addr
  fd_law : FuncData
  F_law : Fun K "law" "law" s_law f_law fd_law
  b_law : Binds K fd_law ["script"] []
  g_law : mg "law" = some (.ref f_law)
  m_ValueError : mg "ValueError" = none
  m_abs : mg "abs" = none
  m_all : mg "all" = none
  m_bool : mg "bool" = none
  m_enumerate : mg "enumerate" = none
  m_int : mg "int" = none
  m_isinstance : mg "isinstance" = none
  m_len : mg "len" = none
  m_list : mg "list" = none
  m_range : mg "range" = none
  m_tuple : mg "tuple" = none
  c_MOST_IN_CLUB : {t : Tok // mg "MOST_IN_CLUB" = some (.int 8 t)}
  C_ClubError : Addr
  g_ClubError : mg "ClubError" = some (.ref C_ClubError)
  C_BadTable : Addr
  g_BadTable : mg "BadTable" = some (.ref C_BadTable)
  C_BadScores : Addr
  g_BadScores : mg "BadScores" = some (.ref C_BadScores)
  fI_BadTable : Addr
  fd_BadTable : FuncData
  X_BadTable : ClsX K mg "BadTable" C_BadTable fI_BadTable
  I_BadTable : Fun K "__init__" "BadTable.__init__" si_BadTable fI_BadTable fd_BadTable
  B_BadTable : Binds K fd_BadTable ["self", "at"] []
  n_BadTable_at : PySem.W.findIn K (.ref C_BadTable) "at" = some none
  e_BadTable_ClubError : PySem.W.exmOne K (.ref C_BadTable) (.ref C_ClubError) = some true
  k_BadTable : L2.ExcC K C_BadTable
  i_BadTable_BadTable : PySem.W.kitOne K (.ref C_BadTable) (.ref C_BadTable) = some true
  i_BadTable_BadScores : PySem.W.kitOne K (.ref C_BadTable) (.ref C_BadScores) = some false
  i_BadTable_ValueError : PySem.W.kitOne K (.ref C_BadTable) (.type "ValueError") = some true
  fI_BadScores : Addr
  fd_BadScores : FuncData
  X_BadScores : ClsX K mg "BadScores" C_BadScores fI_BadScores
  I_BadScores : Fun K "__init__" "BadScores.__init__" si_BadScores fI_BadScores fd_BadScores
  B_BadScores : Binds K fd_BadScores ["self", "at"] []
  n_BadScores_at : PySem.W.findIn K (.ref C_BadScores) "at" = some none
  e_BadScores_ClubError : PySem.W.exmOne K (.ref C_BadScores) (.ref C_ClubError) = some true
  k_BadScores : L2.ExcC K C_BadScores
  i_BadScores_BadTable : PySem.W.kitOne K (.ref C_BadScores) (.ref C_BadTable) = some false
  i_BadScores_BadScores : PySem.W.kitOne K (.ref C_BadScores) (.ref C_BadScores) = some true
  i_BadScores_ValueError : PySem.W.kitOne K (.ref C_BadScores) (.type "ValueError") = some true
  h_BadScores_at : XfC K C_BadScores ∧ PySem.W.findIn K (.ref C_BadScores) "at" = some none ∧ (["at"] : List Str)[(0 : Nat)]? = some ("at" : Str) ∧ ∀ j : Nat, j < 0 → (["at"] : List Str)[j]? ≠ some ("at" : Str)
  h_BadTable_at : XfC K C_BadTable ∧ PySem.W.findIn K (.ref C_BadTable) "at" = some none ∧ (["at"] : List Str)[(0 : Nat)]? = some ("at" : Str) ∧ ∀ j : Nat, j < 0 → (["at"] : List Str)[j]? ≠ some ("at" : Str)
abbrev cmT {w : World} {K : PySem.W.Frag} {mg : Str → Option Value} (T : Txt w K mg) : CM := [(T.C_BadTable, ["at"]), (T.C_BadScores, ["at"])]
section
variable {P : Program} {w : World} {K : PySem.W.Frag} {mg : Str → Option Value} {base : Heap}
theorem ini_BadTable (T : Txt w K mg) : FnOk P w K mg base (L2.CX P w) 1 T.fI_BadTable T.fd_BadTable ["self", "at"] (spIni K T.C_BadTable ["at"]) := ok_ini1 T.I_BadTable sci_BadTable rfl (by decide) (by decide) rfl rfl (fun _ _ _ => rfl) T.X_BadTable.ox T.n_BadTable_at
theorem ok_is_meeting_row (T : Txt w K mg) : FnOk P w K mg base (L2.CX P w) 1 T.f_is_meeting_row T.fd_is_meeting_row ["row"] (spF K (cmT T) 1 F_is_meeting_row) :=
  fn_ok (N := ["row", "sign"]) (body := g_is_meeting_row) T.F_is_meeting_row sc_is_meeting_row fun cdv A outer s H E hr =>
  (ssx_one (sx_ret (ex_and (ex_chain op_le opd_le op_le opd_le ex_int (ex_B call_lenV cd_len (by rfl) T.m_len bt_len (ax_cons (ex_var 0) ax_nil)) (ex_globInt (by rfl) T.c_MOST_IN_CLUB.2)) (ex_one (ex_B (cr_all rfl) cd_all (by rfl) T.m_all bt_all (ax_cons (ex_lc [("sign", 1)] rfl sc_is_meeting_row.nd (ix_val (ex_var 0)) (blkOk_by (by kernel_rfl)) (fun _ _ _ _ _ => (zg 1 sc_is_meeting_row.nd)) (fun _ _ _ _ _ => .nil) (fun _ _ _ _ _ => (ex_cmp (op_inV (hu65 hr)) opd_in (ex_var 1) (ex_tup (ax_cons (ex_str [119] st0 (by decide)) (ax_cons (ex_str [108] st1 (by decide)) ax_nil))) (by rfl))) (by decide)) ax_nil))))))
theorem ok_check_meeting (T : Txt w K mg) : FnOk P w K mg base (L2.CX P w) 3 T.f_check_meeting T.fd_check_meeting ["rows"] (spF K (cmT T) 1 F_check_meeting) :=
  fn_ok (N := ["rows", "at", "row"]) (body := g_check_meeting) T.F_check_meeting sc_check_meeting fun cdv A outer s H E hr =>
  (ssx_cons (sx_if (tx_not (tx_chain op_le opd_le op_le opd_le ex_int (ex_B call_lenV cd_len (by rfl) T.m_len bt_len (ax_cons (ex_var 0) ax_nil)) (ex_globInt (by rfl) T.c_MOST_IN_CLUB.2)))
  (ssx_one (sx_raise rfl (takes_of rfl rfl rfl rfl) T.X_BadTable.ox T.X_BadTable.ini T.X_BadTable.tyI (ini_BadTable T) (hr.mono (by decide)) T.B_BadTable (by rfl) T.X_BadTable.mg rfl (by decide) (List.cons_ne_nil _ _) (ax_cons (ex_un un_neg und_neg ex_int) ax_nil) len1))
  ssx_nil)
  (ssx_one (sx_for (passes_of rfl) rfl (ix_enumV (by rfl) T.m_enumerate (ex_var 0)) (gx_tp rfl (gsx_cons (zg 1 sc_check_meeting.nd) (gsx_cons (zg 2 sc_check_meeting.nd) gsx_nil)) rfl)
  (ssx_one (sx_if (WTX.tx (wx_or (tx_not (tx_val (ex_call [false] (ok_is_meeting_row T) (hr.mono (by decide)) (by rfl) T.g_is_meeting_row T.F_is_meeting_row.kp T.b_is_meeting_row rfl (ax_cons (ex_var 2) ax_nil)))) (wx_or1 (tx_cmp (op_neD hr.units) opd_ne (ex_B call_lenV cd_len (by rfl) T.m_len bt_len (ax_cons (ex_var 2) ax_nil)) (ex_B call_lenV cd_len (by rfl) T.m_len bt_len (ax_cons (ex_ix ix_seq opd_idx (ex_var 0) ex_int (fun _ _ => rfl)) ax_nil)) (nomark _)))))
  (ssx_one (sx_raise rfl (takes_of rfl rfl rfl rfl) T.X_BadTable.ox T.X_BadTable.ini T.X_BadTable.tyI (ini_BadTable T) (hr.mono (by decide)) T.B_BadTable (by rfl) T.X_BadTable.mg rfl (by decide) (List.cons_ne_nil _ _) (ax_cons (ex_var 1) ax_nil) len1))
  ssx_nil)))))
theorem ok_wins_of_both (T : Txt w K mg) : FnOk P w K mg base (L2.CX P w) 1 T.f_wins_of_both T.fd_wins_of_both ["rows"] (spF K (cmT T) 1 F_wins_of_both) :=
  fn_ok (N := ["rows", "first", "row", "second", "k"]) (body := g_wins_of_both) T.F_wins_of_both sc_wins_of_both fun cdv A outer s H E hr =>
  (ssx_cons (zsetLc [("row", 2)] 1 rfl sc_wins_of_both.nd rfl (ix_val (ex_var 0)) (blkOk_by (by kernel_rfl)) (fun _ _ _ _ _ => (zg 2 sc_wins_of_both.nd)) (fun _ _ _ _ _ => .nil) (fun _ _ _ _ _ => (ex_meth PySem.F.plainAttrs_str slot_countS PySem.F.type_str_count mt_count md_count ty_str (ex_var 2) (ax_cons (ex_str [119] st0 (by decide)) ax_nil))) (by decide))
  (ssx_cons (zsetLc [("k", 4)] 3 rfl sc_wins_of_both.nd rfl (ix_range1 (by rfl) T.m_range (ex_B call_lenV cd_len (by rfl) T.m_len bt_len (ax_cons (ex_ix ix_seq opd_idx (ex_var 0) ex_int (fun _ _ => rfl)) ax_nil))) (blkOk_by (by kernel_rfl)) (fun _ _ _ _ _ => (zg 4 sc_wins_of_both.nd)) (fun _ _ _ _ _ => .nil) (fun _ _ _ _ _ => (ex_B call_lenV cd_len (by rfl) T.m_len bt_len (ax_cons (ex_lc [("row", 2)] rfl sc_wins_of_both.nd (ix_val (ex_var 0)) (blkOk_by (by kernel_rfl)) (fun _ _ _ _ _ => (zg 2 sc_wins_of_both.nd)) (fun _ _ _ _ _ => (.one (tx_cmp (op_eqD hr.units) opd_eq (ex_ix ix_seq opd_idx (ex_var 2) (ex_var 4) (fun _ _ => rfl)) (ex_str [108] st1 (by decide)) (nomark _)))) (fun _ _ _ _ _ => (ex_var 2)) (by decide)) ax_nil))) (by decide))
  (ssx_one (sx_ret (ex_tupT (ax_cons (ex_var 1) (ax_cons (ex_var 3) ax_nil)))))))
theorem ok_l_feed (T : Txt w K mg) : FnOk P w K mg base (L2.CX P w) 1 T.f_l_feed T.fd_l_feed ["script"] (spF K (cmT T) 1 F_l_feed) :=
  fn_ok (N := ["script"]) (body := g_l_feed) T.F_l_feed sc_l_feed fun cdv A outer s H E hr =>
  (ssx_one (sx_ret (ex_lst (ax_cons (ex_Ty call_list_of cd_list (by rfl) T.m_list bt_list (ax_cons (ex_var 0) ax_nil)) (ax_cons ex_int (ax_cons ex_int (ax_cons ex_int ax_nil)))))))
theorem ok_l_draw (T : Txt w K mg) : FnOk P w K mg base (L2.CX P w) 1 T.f_l_draw T.fd_l_draw ["feed", "many"] (spF K (cmT T) 2 F_l_draw) :=
  fn_ok (N := ["feed", "many", "cell", "told", "mixed"]) (body := g_l_draw) T.F_l_draw sc_l_draw fun cdv A outer s H E hr =>
  (ssx_cons (sx_if (WTX.tx (wx_and (tx_cmp (op_eqD hr.units) opd_eq (ex_ix ix_seq opd_idx (ex_var 0) ex_int (fun _ _ => rfl)) ex_int (nomark _)) (wx_and1 (tx_cmp (op_ltV hr.units0) opd_lt (ex_ix ix_seq opd_idx (ex_var 0) ex_int (fun _ _ => rfl)) (ex_B call_lenV cd_len (by rfl) T.m_len bt_len (ax_cons (ex_ix ix_seq opd_idx (ex_var 0) ex_int (fun _ _ => rfl)) ax_nil)) (nomark _)))))
  (ssx_cons (zset 2 sc_l_draw.nd (ex_B call_abs cd_abs (by rfl) T.m_abs bt_abs (ax_cons (ex_Ty call_int1 cd_int (by rfl) T.m_int bt_int (ax_cons (ex_ix ix_seq opd_idx (ex_ix ix_seq opd_idx (ex_var 0) ex_int (fun _ _ => rfl)) (ex_ix ix_seq opd_idx (ex_var 0) ex_int (fun _ _ => rfl)) (fun _ _ => rfl)) ax_nil)) ax_nil)))
  (ssx_cons (sx_augIx pget_list ip_add set_list getd_list ipd_add setd_list (ex_var 0) ex_int ex_int)
  (ssx_one (sx_if (tx_cmp (op_geV hr.units0) opd_ge (ex_var 2) (ex_bin op_pow opd_pow ex_int ex_int) (nomark _))
  (ssx_one (sx_setIx set_list setd_list (ex_var 2) (ex_var 0) ex_int))
  (ssx_one (sx_setIx set_list setd_list (ex_bin op_mod opd_mod (ex_Ty call_int1 cd_int (by rfl) T.m_int bt_int (ax_cons (ex_bin op_addV opd_add (ex_bin op_addV opd_add (ex_bin op_mulV opd_mul (ex_ix ix_seq opd_idx (ex_var 0) ex_int (fun _ _ => rfl)) ex_int) (ex_bin op_mulV opd_mul (ex_var 2) ex_int)) (ex_ix ix_seq opd_idx (ex_var 0) ex_int (fun _ _ => rfl))) ax_nil)) ex_int) (ex_var 0) ex_int))))))
  ssx_nil)
  (ssx_cons (sx_if (tx_cmp op_gt opd_gt (ex_ix ix_seq opd_idx (ex_var 0) ex_int (fun _ _ => rfl)) ex_int (nomark _))
  (ssx_cons (zset 3 sc_l_draw.nd (ex_bin op_mod opd_mod (ex_Ty call_int1 cd_int (by rfl) T.m_int bt_int (ax_cons (ex_ix ix_seq opd_idx (ex_var 0) ex_int (fun _ _ => rfl)) ax_nil)) (ex_var 1)))
  (ssx_cons (sx_setIx set_list setd_list (ex_bin op_fdivW opd_div (ex_ix ix_seq opd_idx (ex_var 0) ex_int (fun _ _ => rfl)) (ex_var 1)) (ex_var 0) ex_int)
  (ssx_one (sx_ret (ex_var 3)))))
  ssx_nil)
  (ssx_cons (sx_setIx set_list setd_list (ex_bin op_mod opd_mod (ex_Ty call_int1 cd_int (by rfl) T.m_int bt_int (ax_cons (ex_bin op_addV opd_add (ex_bin op_mulV opd_mul (ex_ix ix_seq opd_idx (ex_var 0) ex_int (fun _ _ => rfl)) ex_int) ex_int) ax_nil)) ex_int) (ex_var 0) ex_int)
  (ssx_cons (zset 4 sc_l_draw.nd (ex_bin op_mod opd_mod (ex_Ty call_int1 cd_int (by rfl) T.m_int bt_int (ax_cons (ex_bin op_addV opd_add (ex_bin op_mulV opd_mul (ex_ix ix_seq opd_idx (ex_var 0) ex_int (fun _ _ => rfl)) (ex_ix ix_seq opd_idx (ex_var 0) ex_int (fun _ _ => rfl))) (ex_ix ix_seq opd_idx (ex_var 0) ex_int (fun _ _ => rfl))) ax_nil)) ex_int))
  (ssx_one (sx_ret (ex_bin op_mod opd_mod (ex_bin op_fdivW opd_div (ex_var 4) ex_int) (ex_var 1))))))))
theorem ok_l_is_whole (T : Txt w K mg) : FnOk P w K mg base (L2.CX P w) 1 T.f_l_is_whole T.fd_l_is_whole ["x"] (spF K (cmT T) 1 F_l_is_whole) :=
  fn_ok (N := ["x"]) (body := g_l_is_whole) T.F_l_is_whole sc_l_is_whole fun cdv A outer s H E hr =>
  (ssx_one (sx_ret (ex_and (ex_isi .int (by rfl) T.m_isinstance (by rfl) T.m_int (ex_var 0)) (ex_one (ex_not (ex_isi .bool (by rfl) T.m_isinstance (by rfl) T.m_bool (ex_var 0)))))))
theorem okq_l_is_whole (T : Txt w K mg) : FnQ P w K mg base (L2.CX P w) 1 T.f_l_is_whole T.fd_l_is_whole ["x"] (spF K (cmT T) 1 F_l_is_whole) :=
  fnQ_ok (N := ["x"]) (body := g_l_is_whole) T.F_l_is_whole sc_l_is_whole fun cdv A outer s H E p hr =>
  (ssx_one (sx_ret (ex_and (ex_isi .int (by rfl) T.m_isinstance (by rfl) T.m_int (ex_var 0)) (ex_one (ex_not (ex_isi .bool (by rfl) T.m_isinstance (by rfl) T.m_bool (ex_var 0)))))))
theorem ok_l_meeting (T : Txt w K mg) : FnOk P w K mg base (L2.CX P w) 2 T.f_l_meeting T.fd_l_meeting ["feed", "a", "b"] (spF K (cmT T) 3 F_l_meeting) :=
  fn_ok (N := ["feed", "a", "b", "share", "k", "i"]) (body := g_l_meeting) T.F_l_meeting sc_l_meeting fun cdv A outer s H E hr =>
  (ssx_cons (zset 3 sc_l_meeting.nd (ex_call [true, false] (ok_l_draw T) (hr.mono (by decide)) (by rfl) T.g_l_draw T.F_l_draw.kp T.b_l_draw rfl (ax_cons (ex_var 0) (ax_cons ex_int ax_nil))))
  (ssx_one (sx_ret (ex_lc [("i", 5)] rfl sc_l_meeting.nd (ix_range1 (by rfl) T.m_range (ex_var 1)) (blkOk_by (by kernel_rfl)) (fun _ _ _ _ _ => (zg 5 sc_l_meeting.nd)) (fun _ _ _ _ _ => .nil) (fun _ _ _ _ _ => (ex_meth PySem.F.plainAttrs_str slot_joinS PySem.F.type_str_join mt_join md_join ty_str (ex_str [] st2 (by decide)) (ax_cons (ex_lc [("k", 4)] rfl sc_l_meeting.nd (ix_range1 (by rfl) T.m_range (ex_var 2)) (blkOk_by (by kernel_rfl)) (fun _ _ _ _ _ => (zg 4 sc_l_meeting.nd)) (fun _ _ _ _ _ => .nil) (fun _ _ _ _ _ => (ex_ix ix_seq opd_idx (ex_lst (ax_cons (ex_str [108] st1 (by decide)) (ax_cons (ex_str [119] st0 (by decide)) ax_nil))) (ex_Ty call_int1 cd_int (by rfl) T.m_int bt_int (ax_cons (ex_cmp (op_ltV hr.units0) opd_lt (ex_call [true, false] (ok_l_draw T) (hr.mono (by decide)) (by rfl) T.g_l_draw T.F_l_draw.kp T.b_l_draw rfl (ax_cons (ex_var 0) (ax_cons ex_int ax_nil))) (ex_var 3) (nomark _)) ax_nil)) (fun _ _ => rfl))) (by decide)) ax_nil))) (by decide)))))
theorem ok_l_fault (T : Txt w K mg) : FnOk P w K mg base (L2.CX P w) 1 T.f_l_fault T.fd_l_fault ["rows"] (spF K (cmT T) 1 F_l_fault) :=
  fn_ok (N := ["rows", "at", "sign"]) (body := g_l_fault) T.F_l_fault sc_l_fault fun cdv A outer s H E hr =>
  (ssx_cons (sx_if (tx_not (tx_chain op_le opd_le op_le opd_le ex_int (ex_B call_lenV cd_len (by rfl) T.m_len bt_len (ax_cons (ex_var 0) ax_nil)) ex_int))
  (ssx_one (sx_ret (ex_un un_neg und_neg ex_int)))
  ssx_nil)
  (ssx_cons (sx_for (passes_of rfl) rfl (ix_range1 (by rfl) T.m_range (ex_B call_lenV cd_len (by rfl) T.m_len bt_len (ax_cons (ex_var 0) ax_nil))) (zg 1 sc_l_fault.nd)
  (ssx_cons (sx_if (WTX.tx (wx_or (tx_not (tx_chain op_le opd_le op_le opd_le ex_int (ex_B call_lenV cd_len (by rfl) T.m_len bt_len (ax_cons (ex_ix ix_seq opd_idx (ex_var 0) (ex_var 1) (fun _ _ => rfl)) ax_nil)) ex_int)) (wx_or1 (tx_cmp (op_neD hr.units) opd_ne (ex_B call_lenV cd_len (by rfl) T.m_len bt_len (ax_cons (ex_ix ix_seq opd_idx (ex_var 0) (ex_var 1) (fun _ _ => rfl)) ax_nil)) (ex_B call_lenV cd_len (by rfl) T.m_len bt_len (ax_cons (ex_ix ix_seq opd_idx (ex_var 0) ex_int (fun _ _ => rfl)) ax_nil)) (nomark _)))))
  (ssx_one (sx_ret (ex_var 1)))
  ssx_nil)
  (ssx_one (sx_if (tx_cmp op_gt opd_gt (ex_B call_lenV cd_len (by rfl) T.m_len bt_len (ax_cons (ex_lc [("sign", 2)] rfl sc_l_fault.nd (ix_val (ex_ix ix_seq opd_idx (ex_var 0) (ex_var 1) (fun _ _ => rfl))) (blkOk_by (by kernel_rfl)) (fun _ _ _ _ _ => (zg 2 sc_l_fault.nd)) (fun _ _ _ _ _ => (.one (tx_cmp (op_notInV (hu65 hr)) opd_notIn (ex_var 2) (ex_lst (ax_cons (ex_str [119] st0 (by decide)) (ax_cons (ex_str [108] st1 (by decide)) ax_nil))) (by rfl)))) (fun _ _ _ _ _ => (ex_var 2)) (by decide)) ax_nil)) ex_int (nomark _))
  (ssx_one (sx_ret (ex_var 1)))
  ssx_nil))))
  (ssx_one (sx_ret ex_non))))
theorem ok_l_wins (T : Txt w K mg) : FnOk P w K mg base (L2.CX P w) 1 T.f_l_wins T.fd_l_wins ["rows"] (spF K (cmT T) 1 F_l_wins) :=
  fn_ok (N := ["rows", "first", "sign", "row", "second", "k"]) (body := g_l_wins) T.F_l_wins sc_l_wins fun cdv A outer s H E hr =>
  (ssx_cons (zsetLc [("row", 3)] 1 rfl sc_l_wins.nd rfl (ix_val (ex_var 0)) (blkOk_by (by kernel_rfl)) (fun _ _ _ _ _ => (zg 3 sc_l_wins.nd)) (fun _ _ _ _ _ => .nil) (fun _ _ _ _ _ => (ex_B call_lenV cd_len (by rfl) T.m_len bt_len (ax_cons (ex_lc [("sign", 2)] rfl sc_l_wins.nd (ix_val (ex_var 3)) (blkOk_by (by kernel_rfl)) (fun _ _ _ _ _ => (zg 2 sc_l_wins.nd)) (fun _ _ _ _ _ => (.one (tx_cmp (op_eqD hr.units) opd_eq (ex_var 2) (ex_str [119] st0 (by decide)) (nomark _)))) (fun _ _ _ _ _ => (ex_var 2)) (by decide)) ax_nil))) (by decide))
  (ssx_cons (zset 4 sc_l_wins.nd (ex_bin op_mulV opd_mul (ex_lst (ax_cons ex_int ax_nil)) (ex_B call_lenV cd_len (by rfl) T.m_len bt_len (ax_cons (ex_ix ix_seq opd_idx (ex_var 0) ex_int (fun _ _ => rfl)) ax_nil))))
  (ssx_cons (sx_for (passes_of rfl) rfl (ix_val (ex_var 0)) (zg 3 sc_l_wins.nd)
  (ssx_one (sx_for (passes_of rfl) rfl (ix_range1 (by rfl) T.m_range (ex_B call_lenV cd_len (by rfl) T.m_len bt_len (ax_cons (ex_var 3) ax_nil))) (zg 5 sc_l_wins.nd)
  (ssx_one (sx_if (tx_cmp (op_eqD hr.units) opd_eq (ex_ix ix_seq opd_idx (ex_var 3) (ex_var 5) (fun _ _ => rfl)) (ex_str [108] st1 (by decide)) (nomark _))
  (ssx_one (sx_augIx pget_list ip_add set_list getd_list ipd_add setd_list (ex_var 4) (ex_var 5) ex_int))
  ssx_nil)))))
  (ssx_one (sx_ret (ex_tup (ax_cons (ex_var 1) (ax_cons (ex_var 4) ax_nil))))))))
theorem ok_l_checked (T : Txt w K mg) : FnOk P w K mg base (L2.CX P w) 4 T.f_l_checked T.fd_l_checked ["rows"] (spF K (cmT T) 1 F_l_checked) :=
  fn_ok (N := ["rows", "mine", "due", "told", "e"]) (body := g_l_checked) T.F_l_checked sc_l_checked fun cdv A outer s H E hr =>
  (ssx_cons (zset 1 sc_l_checked.nd (ex_Ty call_list_of cd_list (by rfl) T.m_list bt_list (ax_cons (ex_var 0) ax_nil)))
  (ssx_cons (zset 2 sc_l_checked.nd (ex_call [false] (ok_l_fault T) (hr.mono (by decide)) (by rfl) T.g_l_fault T.F_l_fault.kp T.b_l_fault rfl (ax_cons (ex_var 0) ax_nil)))
  (ssx_cons (sx_try 4 (fun c => [true, true][c]?) rfl rfl sc_l_checked.nd rfl rfl ⟨by rfl, by decide, .inl T.g_ClubError⟩ (takes_of rfl rfl rfl rfl) (sel_of (cm := cmT T) ⟨T.e_BadTable_ClubError, T.e_BadScores_ClubError, trivial⟩) (fun W pn xe tk _ => (ssx_one (zsetO 3 sc_l_checked.nd (exo_call [false] tk (ok_check_meeting T) (hr.mono (by decide)) (by rfl) T.g_check_meeting T.F_check_meeting.kp T.b_check_meeting rfl (ax_cons (ex_var 1) ax_nil)))))
  (fun a oe C d pn c names hcm hz hf => (ssx_cons (sx_if (WTX.tx (wx_or (tx_not (tx_val (ex_isE 4 (fun c => [true, false][c]?) hz hf hcm (by rfl) T.m_isinstance (pe_glob (v := .ref T.C_BadTable) (by rfl) T.g_BadTable rfl) (fun _ h => h) (sel_of (cm := cmT T) ⟨⟨T.k_BadTable, T.i_BadTable_BadTable⟩, ⟨T.k_BadScores, T.i_BadScores_BadTable⟩, trivial⟩)))) (wx_or (tx_val (ex_isE 4 (fun c => [false, true][c]?) hz hf hcm (by rfl) T.m_isinstance (pe_glob (v := .ref T.C_BadScores) (by rfl) T.g_BadScores rfl) (fun _ h => h) (sel_of (cm := cmT T) ⟨⟨T.k_BadTable, T.i_BadTable_BadScores⟩, ⟨T.k_BadScores, T.i_BadScores_BadScores⟩, trivial⟩))) (wx_or1 (tx_not (tx_val (ex_isE 4 (fun c => [true, true][c]?) hz hf hcm (by rfl) T.m_isinstance (pe_bltn (v := .ty "ValueError") (by rfl) T.m_ValueError PyProof.Rows.Boot.«ValueError» rfl) (fun _ h => h) (sel_of (cm := cmT T) ⟨⟨T.k_BadTable, T.i_BadTable_ValueError⟩, ⟨T.k_BadScores, T.i_BadScores_ValueError⟩, trivial⟩))))))))
  (ssx_one (sx_ret ex_bl))
  ssx_nil)
  (ssx_one (sx_ret (ex_and (ex_cmp op_notN opd_notN (ex_var 2) ex_non (nomark _)) (ex_and (ex_callQ [false] (okq_l_is_whole T) (roomS (hr.mono (by decide))) ⟨_, List.mem_cons_self⟩ (by rfl) T.g_l_is_whole T.F_l_is_whole.kp T.b_l_is_whole rfl (ax_cons (ex_fld 4 (fun c => ([some 0, some 0] : List (Option Nat)).getD c none) hz hf hcm (fld_of (cm := cmT T) ⟨T.h_BadTable_at, T.h_BadScores_at, trivial⟩)) ax_nil)) (ex_and (ex_cmp (op_eqD hr.units) opd_eq (ex_fld 4 (fun c => ([some 0, some 0] : List (Option Nat)).getD c none) hz hf hcm (fld_of (cm := cmT T) ⟨T.h_BadTable_at, T.h_BadScores_at, trivial⟩)) (ex_var 2) (nomark _)) (ex_one (ex_cmp (op_eqD hr.units) opd_eq (ex_var 1) (ex_var 0) (nomark _)))))))))))
  (ssx_one (sx_ret (ex_and (ex_cmp op_isN opd_isN (ex_var 2) ex_non (nomark _)) (ex_and (ex_cmp op_isN opd_isN (ex_var 3) ex_non (nomark _)) (ex_one (ex_cmp (op_eqD hr.units) opd_eq (ex_var 1) (ex_var 0) (nomark _))))))))))
theorem ok_l_counted (T : Txt w K mg) : FnOk P w K mg base (L2.CX P w) 2 T.f_l_counted T.fd_l_counted ["rows"] (spF K (cmT T) 1 F_l_counted) :=
  fn_ok (N := ["rows", "mine", "told", "x", "spoilt"]) (body := g_l_counted) T.F_l_counted sc_l_counted fun cdv A outer s H E hr =>
  (ssx_cons (zset 1 sc_l_counted.nd (ex_Ty call_list_of cd_list (by rfl) T.m_list bt_list (ax_cons (ex_var 0) ax_nil)))
  (ssx_cons (zset 2 sc_l_counted.nd (ex_call [false] (ok_wins_of_both T) (hr.mono (by decide)) (by rfl) T.g_wins_of_both T.F_wins_of_both.kp T.b_wins_of_both rfl (ax_cons (ex_var 1) ax_nil)))
  (ssx_cons (sx_if (WTX.tx (wx_or (tx_cmp (op_neD hr.units) opd_ne (ex_var 1) (ex_var 0) (nomark _)) (wx_or (tx_not (tx_pure (fun _ _ _ h => h) (tx_val (ex_isi .tuple (by rfl) T.m_isinstance (by rfl) T.m_tuple (ex_var 2))))) (wx_or1 (tx_pure (fun _ _ _ h => h) (tx_cmp (op_neD hr.units) opd_ne (ex_var 2) (ex_call [false] (ok_l_wins T) (hr.mono (by decide)) (by rfl) T.g_l_wins T.F_l_wins.kp T.b_l_wins rfl (ax_cons (ex_var 0) ax_nil)) (nomark _)))))))
  (ssx_one (sx_ret ex_bl))
  ssx_nil)
  (ssx_cons (sx_if (tx_pure (fun _ _ _ h => h) (tx_cmp (op_neD hr.units) opd_ne (ex_B call_lenV cd_len (by rfl) T.m_len bt_len (ax_cons (ex_lc [("x", 3)] rfl sc_l_counted.nd (ix_val (ex_bin op_addV opd_add (ex_ix ix_seq opd_idx (ex_var 2) ex_int (fun _ _ => rfl)) (ex_ix ix_seq opd_idx (ex_var 2) ex_int (fun _ _ => rfl)))) (blkOk_by (by kernel_rfl)) (fun _ _ _ _ _ => (zg 3 sc_l_counted.nd)) (fun _ _ _ _ _ => (.one (tx_val (ex_call [false] (ok_l_is_whole T) (hr.mono (by decide)) (by rfl) T.g_l_is_whole T.F_l_is_whole.kp T.b_l_is_whole rfl (ax_cons (ex_var 3) ax_nil))))) (fun _ _ _ _ _ => (ex_var 3)) (by decide)) ax_nil)) (ex_bin op_addV opd_add (ex_B call_lenV cd_len (by rfl) T.m_len bt_len (ax_cons (ex_var 0) ax_nil)) (ex_B call_lenV cd_len (by rfl) T.m_len bt_len (ax_cons (ex_ix ix_seq opd_idx (ex_var 0) ex_int (fun _ _ => rfl)) ax_nil))) (nomark _)))
  (ssx_one (sx_ret ex_bl))
  ssx_nil)
  (ssx_cons (zset 4 sc_l_counted.nd (ex_take (i := 2) ex_int (fun _ _ => rfl)))
  (ssx_cons (sx_expr (ex_mut PySem.F.plainAttrs_list slot_appendL PySem.F.type_list_append mt_append md_append ty_list (ex_var 4) (ax_cons ex_int ax_nil)))
  (ssx_one (sx_ret (ex_cmp (op_eqD hr.units) opd_eq (ex_fz (ex_call [false] (ok_wins_of_both T) (hr.mono (by decide)) (by rfl) T.g_wins_of_both T.F_wins_of_both.kp T.b_wins_of_both rfl (ax_cons (ex_var 1) ax_nil))) (ex_call [false] (ok_l_wins T) (hr.mono (by decide)) (by rfl) T.g_l_wins T.F_l_wins.kp T.b_l_wins rfl (ax_cons (ex_var 0) ax_nil)) (nomark _))))))))))
theorem ok_l_near (T : Txt w K mg) : FnOk P w K mg base (L2.CX P w) 2 T.f_l_near T.fd_l_near ["feed", "rows"] (spF K (cmT T) 2 F_l_near) :=
  fn_ok (N := ["feed", "rows", "at", "row", "place", "found", "one", "sign"]) (body := g_l_near) T.F_l_near sc_l_near fun cdv A outer s H E hr =>
  (ssx_cons (zset 2 sc_l_near.nd (ex_call [true, false] (ok_l_draw T) (hr.mono (by decide)) (by rfl) T.g_l_draw T.F_l_draw.kp T.b_l_draw rfl (ax_cons (ex_var 0) (ax_cons (ex_B call_lenV cd_len (by rfl) T.m_len bt_len (ax_cons (ex_var 1) ax_nil)) ax_nil))))
  (ssx_cons (zset 3 sc_l_near.nd (ex_ix ix_seq opd_idx (ex_var 1) (ex_var 2) (fun _ _ => rfl)))
  (ssx_cons (zset 4 sc_l_near.nd (ex_call [true, false] (ok_l_draw T) (hr.mono (by decide)) (by rfl) T.g_l_draw T.F_l_draw.kp T.b_l_draw rfl (ax_cons (ex_var 0) (ax_cons (ex_B call_lenV cd_len (by rfl) T.m_len bt_len (ax_cons (ex_var 3) ax_nil)) ax_nil))))
  (ssx_cons (zset 5 sc_l_near.nd (ex_lst (ax_cons (ex_var 1) (ax_cons (ex_bin op_addV opd_add (ex_cut (ex_var 1) ox_no (ox_at (ex_var 2))) (ex_cut (ex_var 1) (ox_at (ex_bin op_addV opd_add (ex_var 2) ex_int)) ox_no)) (ax_cons (ex_bin op_addV opd_add (ex_var 1) (ex_lst (ax_cons (ex_var 3) ax_nil))) (ax_cons (ex_bin op_addV opd_add (ex_var 1) (ex_bin op_mulV opd_mul (ex_lst (ax_cons (ex_bin op_mulS opd_mulS (ex_str [119] st0 (by decide)) (ex_B call_lenV cd_len (by rfl) T.m_len bt_len (ax_cons (ex_var 3) ax_nil))) ax_nil)) (ex_bin op_sub opd_sub ex_int (ex_B call_lenV cd_len (by rfl) T.m_len bt_len (ax_cons (ex_var 1) ax_nil))))) (ax_cons (ex_lst ax_nil) ax_nil)))))))
  (ssx_cons (sx_for (passes_of rfl) rfl (ix_val (ex_lst (ax_cons (ex_bin op_addV opd_add (ex_var 3) (ex_str [119] st0 (by decide))) (ax_cons (ex_cut (ex_var 3) (ox_at ex_int) ox_no) (ax_cons (ex_str [] st2 (by decide)) (ax_cons (ex_bin op_mulS opd_mulS (ex_str [119] st0 (by decide)) ex_int) (ax_cons (ex_bin op_mulS opd_mulS (ex_str [108] st1 (by decide)) ex_int) (ax_cons (ex_meth0 PySem.F.plainAttrs_str slot_upperS PySem.F.type_str_upper mt_upper md_upper ty_str (ex_var 3)) (ax_cons (ex_bin op_addV opd_add (ex_var 3) (ex_str [32] st3 (by decide))) ax_nil))))))))) (zg 6 sc_l_near.nd)
  (ssx_one (sx_expr (ex_mut PySem.F.plainAttrs_list slot_appendL PySem.F.type_list_append mt_append md_append ty_list (ex_var 5) (ax_cons (ex_bin op_addV opd_add (ex_bin op_addV opd_add (ex_cut (ex_var 1) ox_no (ox_at (ex_var 2))) (ex_lst (ax_cons (ex_var 6) ax_nil))) (ex_cut (ex_var 1) (ox_at (ex_bin op_addV opd_add (ex_var 2) ex_int)) ox_no)) ax_nil)))))
  (ssx_cons (sx_for (passes_of rfl) rfl (ix_val (ex_lst (ax_cons (ex_str [119] st0 (by decide)) (ax_cons (ex_str [108] st1 (by decide)) (ax_cons (ex_str [45] st4 (by decide)) (ax_cons (ex_str [63] st5 (by decide)) (ax_cons (ex_str [100] st6 (by decide)) (ax_cons (ex_str [87] st7 (by decide)) (ax_cons (ex_str [32] st3 (by decide)) (ax_cons (ex_str [49] st8 (by decide)) ax_nil)))))))))) (zg 7 sc_l_near.nd)
  (ssx_one (sx_expr (ex_mut PySem.F.plainAttrs_list slot_appendL PySem.F.type_list_append mt_append md_append ty_list (ex_var 5) (ax_cons (ex_bin op_addV opd_add (ex_bin op_addV opd_add (ex_cut (ex_var 1) ox_no (ox_at (ex_var 2))) (ex_lst (ax_cons (ex_bin op_addV opd_add (ex_bin op_addV opd_add (ex_cut (ex_var 3) ox_no (ox_at (ex_var 4))) (ex_var 7)) (ex_cut (ex_var 3) (ox_at (ex_bin op_addV opd_add (ex_var 4) ex_int)) ox_no)) ax_nil))) (ex_cut (ex_var 1) (ox_at (ex_bin op_addV opd_add (ex_var 2) ex_int)) ox_no)) ax_nil)))))
  (ssx_one (sx_ret (ex_var 5)))))))))
theorem ok_law (T : Txt w K mg) : FnOk P w K mg base (L2.CX P w) 5 T.f_law T.fd_law ["script"] (spF K (cmT T) 1 F_law) :=
  fn_ok (N := ["script", "feed", "most", "turn", "rows", "paper", "other", "k", "size"]) (body := g_law) T.F_law sc_law fun cdv A outer s H E hr =>
  (ssx_cons (zset 1 sc_law.nd (ex_call [false] (ok_l_feed T) (hr.mono (by decide)) (by rfl) T.g_l_feed T.F_l_feed.kp T.b_l_feed rfl (ax_cons (ex_var 0) ax_nil)))
  (ssx_cons (zset 2 sc_law.nd ex_int)
  (ssx_cons (sx_if (tx_cmp (op_eqD hr.units) opd_eq (ex_call [true, false] (ok_l_draw T) (hr.mono (by decide)) (by rfl) T.g_l_draw T.F_l_draw.kp T.b_l_draw rfl (ax_cons (ex_var 1) (ax_cons ex_int ax_nil))) ex_int (nomark _))
  (ssx_one (zset 2 sc_law.nd ex_int))
  ssx_nil)
  (ssx_cons (sx_for (passes_of rfl) rfl (ix_range1 (by rfl) T.m_range ex_int) (zg 3 sc_law.nd)
  (ssx_cons (zset 4 sc_law.nd (ex_call [true, false, false] (ok_l_meeting T) (hr.mono (by decide)) (by rfl) T.g_l_meeting T.F_l_meeting.kp T.b_l_meeting rfl (ax_cons (ex_var 1) (ax_cons (ex_bin op_addV opd_add ex_int (ex_call [true, false] (ok_l_draw T) (hr.mono (by decide)) (by rfl) T.g_l_draw T.F_l_draw.kp T.b_l_draw rfl (ax_cons (ex_var 1) (ax_cons (ex_var 2) ax_nil)))) (ax_cons (ex_bin op_addV opd_add ex_int (ex_call [true, false] (ok_l_draw T) (hr.mono (by decide)) (by rfl) T.g_l_draw T.F_l_draw.kp T.b_l_draw rfl (ax_cons (ex_var 1) (ax_cons (ex_var 2) ax_nil)))) ax_nil)))))
  (ssx_cons (sx_if (WTX.tx (wx_or (tx_not (tx_val (ex_call [false] (ok_l_checked T) (hr.mono (by decide)) (by rfl) T.g_l_checked T.F_l_checked.kp T.b_l_checked rfl (ax_cons (ex_var 4) ax_nil)))) (wx_or1 (tx_not (tx_val (ex_call [false] (ok_l_counted T) (hr.mono (by decide)) (by rfl) T.g_l_counted T.F_l_counted.kp T.b_l_counted rfl (ax_cons (ex_var 4) ax_nil)))))))
  (ssx_one (sx_ret ex_bl))
  ssx_nil)
  (ssx_cons (sx_for (passes_of rfl) rfl (ix_val (ex_call [true, false] (ok_l_near T) (hr.mono (by decide)) (by rfl) T.g_l_near T.F_l_near.kp T.b_l_near rfl (ax_cons (ex_var 1) (ax_cons (ex_var 4) ax_nil)))) (zg 5 sc_law.nd)
  (ssx_cons (sx_if (tx_not (tx_val (ex_call [false] (ok_l_checked T) (hr.mono (by decide)) (by rfl) T.g_l_checked T.F_l_checked.kp T.b_l_checked rfl (ax_cons (ex_var 5) ax_nil))))
  (ssx_one (sx_ret ex_bl))
  ssx_nil)
  (ssx_one (sx_if (WTX.tx (wx_and (tx_cmp op_isN opd_isN (ex_call [false] (ok_l_fault T) (hr.mono (by decide)) (by rfl) T.g_l_fault T.F_l_fault.kp T.b_l_fault rfl (ax_cons (ex_var 5) ax_nil)) ex_non (nomark _)) (wx_and1 (tx_not (tx_val (ex_call [false] (ok_l_counted T) (hr.mono (by decide)) (by rfl) T.g_l_counted T.F_l_counted.kp T.b_l_counted rfl (ax_cons (ex_var 5) ax_nil)))))))
  (ssx_one (sx_ret ex_bl))
  ssx_nil))))
  (ssx_cons (zsetLc [("k", 7)] 6 rfl sc_law.nd rfl (ix_range1 (by rfl) T.m_range (ex_call [true, false] (ok_l_draw T) (hr.mono (by decide)) (by rfl) T.g_l_draw T.F_l_draw.kp T.b_l_draw rfl (ax_cons (ex_var 1) (ax_cons ex_int ax_nil)))) (blkOk_by (by kernel_rfl)) (fun _ _ _ _ _ => (zg 7 sc_law.nd)) (fun _ _ _ _ _ => .nil) (fun _ _ _ _ _ => (ex_bin op_mulS opd_mulS (ex_str [119] st0 (by decide)) (ex_bin op_addV opd_add ex_int (ex_call [true, false] (ok_l_draw T) (hr.mono (by decide)) (by rfl) T.g_l_draw T.F_l_draw.kp T.b_l_draw rfl (ax_cons (ex_var 1) (ax_cons ex_int ax_nil)))))) (by decide))
  (ssx_cons (sx_if (tx_not (tx_val (ex_call [false] (ok_l_checked T) (hr.mono (by decide)) (by rfl) T.g_l_checked T.F_l_checked.kp T.b_l_checked rfl (ax_cons (ex_var 6) ax_nil))))
  (ssx_one (sx_ret ex_bl))
  ssx_nil)
  (ssx_cons (zset 8 sc_law.nd (ex_bin op_addV opd_add ex_int (ex_call [true, false] (ok_l_draw T) (hr.mono (by decide)) (by rfl) T.g_l_draw T.F_l_draw.kp T.b_l_draw rfl (ax_cons (ex_var 1) (ax_cons ex_int ax_nil)))))
  (ssx_one (sx_if (tx_not (tx_val (ex_call [false] (ok_l_checked T) (hr.mono (by decide)) (by rfl) T.g_l_checked T.F_l_checked.kp T.b_l_checked rfl (ax_cons (ex_bin op_mulV opd_mul (ex_lst (ax_cons (ex_cut (ex_bin op_mulS opd_mulS (ex_str [119, 108] st9 (by decide)) ex_int) ox_no (ox_at (ex_var 8))) ax_nil)) (ex_bin op_addV opd_add ex_int (ex_call [true, false] (ok_l_draw T) (hr.mono (by decide)) (by rfl) T.g_l_draw T.F_l_draw.kp T.b_l_draw rfl (ax_cons (ex_var 1) (ax_cons ex_int ax_nil))))) ax_nil))))
  (ssx_one (sx_ret ex_bl))
  ssx_nil)))))))))
  (ssx_one (sx_ret (ex_and (ex_cmp (op_eqD hr.units) opd_eq (ex_fz (ex_call [false] (ok_wins_of_both T) (hr.mono (by decide)) (by rfl) T.g_wins_of_both T.F_wins_of_both.kp T.b_wins_of_both rfl (ax_cons (ex_lst (ax_cons (ex_str [119, 119, 108] st10 (by decide)) (ax_cons (ex_str [108, 108, 108] st11 (by decide)) ax_nil))) ax_nil))) (ex_tup (ax_cons (ex_lst (ax_cons ex_int (ax_cons ex_int ax_nil))) (ax_cons (ex_lst (ax_cons ex_int (ax_cons ex_int (ax_cons ex_int ax_nil)))) ax_nil))) (nomark _)) (ex_one (ex_call [false] (ok_l_checked T) (hr.mono (by decide)) (by rfl) T.g_l_checked T.F_l_checked.kp T.b_l_checked rfl (ax_cons (ex_bin op_mulV opd_mul (ex_lst (ax_cons (ex_bin op_mulS opd_mulS (ex_str [119] st0 (by decide)) ex_int) ax_nil)) ex_int) ax_nil))))))))))
end
/-! ### what the top has written -/
theorem all_mk {l : PySem.W.OpenLaw} {w : World} {K : PySem.W.Frag} {h : Heap} {mg : Str → Option Value} {fa : Addr} (X : K.In h) (G : h.Ns mainGlobals mg) (hfa : mg "law" = some (.ref fa))
    {od0 an0 : Option Addr} {sl0 : Array (Option Value)} {oc0 kV0 dc0 pm0 cd0 ct0 : Value} {f0 : Addr}
    {od1 an1 : Option Addr} {sl1 : Array (Option Value)} {oc1 kV1 dc1 pm1 cd1 ct1 : Value} {f1 : Addr}
    {od2 an2 : Option Addr} {sl2 : Array (Option Value)} {oc2 kV2 dc2 pm2 cd2 ct2 : Value} {f2 : Addr}
    {od3 an3 : Option Addr} {sl3 : Array (Option Value)} {oc3 kV3 dc3 pm3 cd3 ct3 : Value} {f3 : Addr}
    {od4 an4 : Option Addr} {sl4 : Array (Option Value)} {oc4 kV4 dc4 pm4 cd4 ct4 : Value} {f4 : Addr}
    {od5 an5 : Option Addr} {sl5 : Array (Option Value)} {oc5 kV5 dc5 pm5 cd5 ct5 : Value} {f5 : Addr}
    {od6 an6 : Option Addr} {sl6 : Array (Option Value)} {oc6 kV6 dc6 pm6 cd6 ct6 : Value} {f6 : Addr}
    {od7 an7 : Option Addr} {sl7 : Array (Option Value)} {oc7 kV7 dc7 pm7 cd7 ct7 : Value} {f7 : Addr}
    {od8 an8 : Option Addr} {sl8 : Array (Option Value)} {oc8 kV8 dc8 pm8 cd8 ct8 : Value} {f8 : Addr}
    {od9 an9 : Option Addr} {sl9 : Array (Option Value)} {oc9 kV9 dc9 pm9 cd9 ct9 : Value} {f9 : Addr}
    {od10 an10 : Option Addr} {sl10 : Array (Option Value)} {oc10 kV10 dc10 pm10 cd10 ct10 : Value} {f10 : Addr}
    {od11 an11 : Option Addr} {sl11 : Array (Option Value)} {oc11 kV11 dc11 pm11 cd11 ct11 : Value} {f11 : Addr}
    {od12 an12 : Option Addr} {sl12 : Array (Option Value)} {oc12 kV12 dc12 pm12 cd12 ct12 : Value} {f12 : Addr}
    (a0 : PySem.W.nsIn K mainGlobals "is_meeting_row" = some (some (.ref f0))) (l0 : K.lookup f0 = some ⟨oc0, od0, .func (PySem.W.fnOf "is_meeting_row" "is_meeting_row" (defArgs s_is_meeting_row) (defBody s_is_meeting_row) (defScope s_is_meeting_row) .none kV0 dc0 pm0 an0 cd0 ct0), sl0⟩) (c0 : PySem.W.codeIn K cd0 "is_meeting_row" = true) (k0 : PySem.W.keepIn K (.ref f0) = true)
    (a1 : PySem.W.nsIn K mainGlobals "check_meeting" = some (some (.ref f1))) (l1 : K.lookup f1 = some ⟨oc1, od1, .func (PySem.W.fnOf "check_meeting" "check_meeting" (defArgs s_check_meeting) (defBody s_check_meeting) (defScope s_check_meeting) .none kV1 dc1 pm1 an1 cd1 ct1), sl1⟩) (c1 : PySem.W.codeIn K cd1 "check_meeting" = true) (k1 : PySem.W.keepIn K (.ref f1) = true)
    (a2 : PySem.W.nsIn K mainGlobals "wins_of_both" = some (some (.ref f2))) (l2 : K.lookup f2 = some ⟨oc2, od2, .func (PySem.W.fnOf "wins_of_both" "wins_of_both" (defArgs s_wins_of_both) (defBody s_wins_of_both) (defScope s_wins_of_both) .none kV2 dc2 pm2 an2 cd2 ct2), sl2⟩) (c2 : PySem.W.codeIn K cd2 "wins_of_both" = true) (k2 : PySem.W.keepIn K (.ref f2) = true)
    (a3 : PySem.W.nsIn K mainGlobals "_law_feed" = some (some (.ref f3))) (l3 : K.lookup f3 = some ⟨oc3, od3, .func (PySem.W.fnOf "_law_feed" "_law_feed" (defArgs s_l_feed) (defBody s_l_feed) (defScope s_l_feed) .none kV3 dc3 pm3 an3 cd3 ct3), sl3⟩) (c3 : PySem.W.codeIn K cd3 "_law_feed" = true) (k3 : PySem.W.keepIn K (.ref f3) = true)
    (a4 : PySem.W.nsIn K mainGlobals "_law_draw" = some (some (.ref f4))) (l4 : K.lookup f4 = some ⟨oc4, od4, .func (PySem.W.fnOf "_law_draw" "_law_draw" (defArgs s_l_draw) (defBody s_l_draw) (defScope s_l_draw) .none kV4 dc4 pm4 an4 cd4 ct4), sl4⟩) (c4 : PySem.W.codeIn K cd4 "_law_draw" = true) (k4 : PySem.W.keepIn K (.ref f4) = true)
    (a5 : PySem.W.nsIn K mainGlobals "_law_is_whole" = some (some (.ref f5))) (l5 : K.lookup f5 = some ⟨oc5, od5, .func (PySem.W.fnOf "_law_is_whole" "_law_is_whole" (defArgs s_l_is_whole) (defBody s_l_is_whole) (defScope s_l_is_whole) .none kV5 dc5 pm5 an5 cd5 ct5), sl5⟩) (c5 : PySem.W.codeIn K cd5 "_law_is_whole" = true) (k5 : PySem.W.keepIn K (.ref f5) = true)
    (a6 : PySem.W.nsIn K mainGlobals "_law_meeting" = some (some (.ref f6))) (l6 : K.lookup f6 = some ⟨oc6, od6, .func (PySem.W.fnOf "_law_meeting" "_law_meeting" (defArgs s_l_meeting) (defBody s_l_meeting) (defScope s_l_meeting) .none kV6 dc6 pm6 an6 cd6 ct6), sl6⟩) (c6 : PySem.W.codeIn K cd6 "_law_meeting" = true) (k6 : PySem.W.keepIn K (.ref f6) = true)
    (a7 : PySem.W.nsIn K mainGlobals "_law_fault" = some (some (.ref f7))) (l7 : K.lookup f7 = some ⟨oc7, od7, .func (PySem.W.fnOf "_law_fault" "_law_fault" (defArgs s_l_fault) (defBody s_l_fault) (defScope s_l_fault) .none kV7 dc7 pm7 an7 cd7 ct7), sl7⟩) (c7 : PySem.W.codeIn K cd7 "_law_fault" = true) (k7 : PySem.W.keepIn K (.ref f7) = true)
    (a8 : PySem.W.nsIn K mainGlobals "_law_wins" = some (some (.ref f8))) (l8 : K.lookup f8 = some ⟨oc8, od8, .func (PySem.W.fnOf "_law_wins" "_law_wins" (defArgs s_l_wins) (defBody s_l_wins) (defScope s_l_wins) .none kV8 dc8 pm8 an8 cd8 ct8), sl8⟩) (c8 : PySem.W.codeIn K cd8 "_law_wins" = true) (k8 : PySem.W.keepIn K (.ref f8) = true)
    (a9 : PySem.W.nsIn K mainGlobals "_law_checked" = some (some (.ref f9))) (l9 : K.lookup f9 = some ⟨oc9, od9, .func (PySem.W.fnOf "_law_checked" "_law_checked" (defArgs s_l_checked) (defBody s_l_checked) (defScope s_l_checked) .none kV9 dc9 pm9 an9 cd9 ct9), sl9⟩) (c9 : PySem.W.codeIn K cd9 "_law_checked" = true) (k9 : PySem.W.keepIn K (.ref f9) = true)
    (a10 : PySem.W.nsIn K mainGlobals "_law_counted" = some (some (.ref f10))) (l10 : K.lookup f10 = some ⟨oc10, od10, .func (PySem.W.fnOf "_law_counted" "_law_counted" (defArgs s_l_counted) (defBody s_l_counted) (defScope s_l_counted) .none kV10 dc10 pm10 an10 cd10 ct10), sl10⟩) (c10 : PySem.W.codeIn K cd10 "_law_counted" = true) (k10 : PySem.W.keepIn K (.ref f10) = true)
    (a11 : PySem.W.nsIn K mainGlobals "_law_near" = some (some (.ref f11))) (l11 : K.lookup f11 = some ⟨oc11, od11, .func (PySem.W.fnOf "_law_near" "_law_near" (defArgs s_l_near) (defBody s_l_near) (defScope s_l_near) .none kV11 dc11 pm11 an11 cd11 ct11), sl11⟩) (c11 : PySem.W.codeIn K cd11 "_law_near" = true) (k11 : PySem.W.keepIn K (.ref f11) = true)
    (a12 : PySem.W.nsIn K mainGlobals "law" = some (some (.ref f12))) (l12 : K.lookup f12 = some ⟨oc12, od12, .func (PySem.W.fnOf "law" "law" (defArgs s_law) (defBody s_law) (defScope s_law) .none kV12 dc12 pm12 an12 cd12 ct12), sl12⟩) (c12 : PySem.W.codeIn K cd12 "law" = true) (k12 : PySem.W.keepIn K (.ref f12) = true)
    {C_ClubError : Addr}
    {C_BadTable : Addr}
    {C_BadScores : Addr}
    (aC_ClubError : PySem.W.nsIn K mainGlobals "ClubError" = some (some (.ref C_ClubError)))
    (aC_BadTable : PySem.W.nsIn K mainGlobals "BadTable" = some (some (.ref C_BadTable)))
    (aC_BadScores : PySem.W.nsIn K mainGlobals "BadScores" = some (some (.ref C_BadScores)))
    {fI_BadTable N_BadTable : Addr} {nm_BadTable q_BadTable : Str} {bs_BadTable sub_BadTable : List Value} {sn_BadTable : List Str} {ab_BadTable : Bool} {col_BadTable : Option Bool} {dd_BadTable odI_BadTable anI_BadTable : Option Addr} {m0_BadTable m1_BadTable m2_BadTable m3_BadTable m5_BadTable : Option Value} {slI_BadTable : Array (Option Value)} {ocI_BadTable kVI_BadTable dcI_BadTable pmI_BadTable cdI_BadTable ctI_BadTable : Value}
    (xL_BadTable : K.lookup C_BadTable = some (excClassObj nm_BadTable q_BadTable C_BadTable N_BadTable bs_BadTable [.ref C_ClubError, .type "ValueError", .type "Exception", .type "BaseException", .type "object"] true sn_BadTable sub_BadTable ab_BadTable col_BadTable dd_BadTable m0_BadTable m1_BadTable m2_BadTable m3_BadTable m5_BadTable "ValueError.__new__"))
    (sa_BadTable : PySem.W.findIn K (.ref C_BadTable) "__setattr__" = some (some (.builtin "object.__setattr__")))
    (ga_BadTable : PySem.W.findIn K (.ref C_BadTable) "__getattribute__" = some (some (.builtin "BaseException.__getattribute__")))
    (gg_BadTable : PySem.W.findIn K (.ref C_BadTable) "__getattr__" = some none)
    (nf_at_BadTable : PySem.W.findIn K (.ref C_BadTable) "at" = some none)
    (ai_BadTable : PySem.W.findIn K (.ref C_BadTable) "__init__" = some (some (.ref fI_BadTable)))
    (ti_BadTable : PySem.W.typeIn K (.ref fI_BadTable) = some (.type "function"))
    (li_BadTable : K.lookup fI_BadTable = some ⟨ocI_BadTable, odI_BadTable, .func (PySem.W.fnOf "__init__" "BadTable.__init__" (defArgs si_BadTable) (defBody si_BadTable) (defScope si_BadTable) .none kVI_BadTable dcI_BadTable pmI_BadTable anI_BadTable cdI_BadTable ctI_BadTable), slI_BadTable⟩)
    (ci_BadTable : PySem.W.codeIn K cdI_BadTable "BadTable.__init__" = true)
    (ki_BadTable : PySem.W.keepIn K (.ref fI_BadTable) = true)
    (kC_BadTable : PySem.W.keepIn K (.ref C_BadTable) = true)
    (eC_BadTable : PySem.W.subIn K (.ref C_BadTable) (.type "BaseException") = some true)
    (tC_BadTable : PySem.W.typeIn K (.ref C_BadTable) = some (.type "type"))
    (hC_BadTable : PySem.W.hasDictIn K C_BadTable = true)
    (cc_BadTable : PySem.W.findIn K (.ref C_BadTable) "__class__" = some (some (.builtin "object.__class__")))
    (mo_BadTable : PySem.W.mroIn K C_BadTable (.type "object") = some true)
    {fI_BadScores N_BadScores : Addr} {nm_BadScores q_BadScores : Str} {bs_BadScores sub_BadScores : List Value} {sn_BadScores : List Str} {ab_BadScores : Bool} {col_BadScores : Option Bool} {dd_BadScores odI_BadScores anI_BadScores : Option Addr} {m0_BadScores m1_BadScores m2_BadScores m3_BadScores m5_BadScores : Option Value} {slI_BadScores : Array (Option Value)} {ocI_BadScores kVI_BadScores dcI_BadScores pmI_BadScores cdI_BadScores ctI_BadScores : Value}
    (xL_BadScores : K.lookup C_BadScores = some (excClassObj nm_BadScores q_BadScores C_BadScores N_BadScores bs_BadScores [.ref C_ClubError, .type "ValueError", .type "Exception", .type "BaseException", .type "object"] true sn_BadScores sub_BadScores ab_BadScores col_BadScores dd_BadScores m0_BadScores m1_BadScores m2_BadScores m3_BadScores m5_BadScores "ValueError.__new__"))
    (sa_BadScores : PySem.W.findIn K (.ref C_BadScores) "__setattr__" = some (some (.builtin "object.__setattr__")))
    (ga_BadScores : PySem.W.findIn K (.ref C_BadScores) "__getattribute__" = some (some (.builtin "BaseException.__getattribute__")))
    (gg_BadScores : PySem.W.findIn K (.ref C_BadScores) "__getattr__" = some none)
    (nf_at_BadScores : PySem.W.findIn K (.ref C_BadScores) "at" = some none)
    (ai_BadScores : PySem.W.findIn K (.ref C_BadScores) "__init__" = some (some (.ref fI_BadScores)))
    (ti_BadScores : PySem.W.typeIn K (.ref fI_BadScores) = some (.type "function"))
    (li_BadScores : K.lookup fI_BadScores = some ⟨ocI_BadScores, odI_BadScores, .func (PySem.W.fnOf "__init__" "BadScores.__init__" (defArgs si_BadScores) (defBody si_BadScores) (defScope si_BadScores) .none kVI_BadScores dcI_BadScores pmI_BadScores anI_BadScores cdI_BadScores ctI_BadScores), slI_BadScores⟩)
    (ci_BadScores : PySem.W.codeIn K cdI_BadScores "BadScores.__init__" = true)
    (ki_BadScores : PySem.W.keepIn K (.ref fI_BadScores) = true)
    (kC_BadScores : PySem.W.keepIn K (.ref C_BadScores) = true)
    (eC_BadScores : PySem.W.subIn K (.ref C_BadScores) (.type "BaseException") = some true)
    (tC_BadScores : PySem.W.typeIn K (.ref C_BadScores) = some (.type "type"))
    (hC_BadScores : PySem.W.hasDictIn K C_BadScores = true)
    (cc_BadScores : PySem.W.findIn K (.ref C_BadScores) "__class__" = some (some (.builtin "object.__class__")))
    (mo_BadScores : PySem.W.mroIn K C_BadScores (.type "object") = some true)
    (eC_ClubError : PySem.W.subIn K (.ref C_ClubError) (.type "BaseException") = some true)
    (tC_ClubError : PySem.W.typeIn K (.ref C_ClubError) = some (.type "type"))
    (hC_ClubError : PySem.W.hasDictIn K C_ClubError = true)
    (sb_BadTable_ClubError : PySem.W.subIn K (.ref C_BadTable) (.ref C_ClubError) = some true)
    (sb_BadScores_ClubError : PySem.W.subIn K (.ref C_BadScores) (.ref C_ClubError) = some true)
    (sb_BadTable_BadTable : PySem.W.subIn K (.ref C_BadTable) (.ref C_BadTable) = some true)
    (sb_BadScores_BadTable : PySem.W.subIn K (.ref C_BadScores) (.ref C_BadTable) = some false)
    (sb_BadTable_BadScores : PySem.W.subIn K (.ref C_BadTable) (.ref C_BadScores) = some false)
    (sb_BadScores_BadScores : PySem.W.subIn K (.ref C_BadScores) (.ref C_BadScores) = some true)
    (sv_BadTable : PySem.W.subIn K (.ref C_BadTable) (.type "ValueError") = some true)
    (sv_BadScores : PySem.W.subIn K (.ref C_BadScores) (.type "ValueError") = some true)
    (gn : PySem.W.specialIn K (.builtin "object.__class__") "__get__" = some (some (.builtin "getset_descriptor.__get__")))
    (gt : PySem.W.takesIn K (.builtin "object.__class__") = some true)
    (z_ValueError : PySem.W.nsIn K mainGlobals "ValueError" = some none)
    (z_abs : PySem.W.nsIn K mainGlobals "abs" = some none)
    (z_all : PySem.W.nsIn K mainGlobals "all" = some none)
    (z_bool : PySem.W.nsIn K mainGlobals "bool" = some none)
    (z_enumerate : PySem.W.nsIn K mainGlobals "enumerate" = some none)
    (z_int : PySem.W.nsIn K mainGlobals "int" = some none)
    (z_isinstance : PySem.W.nsIn K mainGlobals "isinstance" = some none)
    (z_len : PySem.W.nsIn K mainGlobals "len" = some none)
    (z_list : PySem.W.nsIn K mainGlobals "list" = some none)
    (z_range : PySem.W.nsIn K mainGlobals "range" = some none)
    (z_tuple : PySem.W.nsIn K mainGlobals "tuple" = some none)
    {t_MOST_IN_CLUB : Tok} (y_MOST_IN_CLUB : PySem.W.nsIn K mainGlobals "MOST_IN_CLUB" = some (some (.int 8 t_MOST_IN_CLUB))) :
    ∃ fd : FuncData, (∀ (s : Shared) (v : Value), BindsTo s fd ⟨[v], []⟩ [("script", v)]) ∧ ∀ base : Heap, K.In base → base.Ns mainGlobals mg → FnOk l.prog w K mg base (L2.CX l.prog w) 5 fa fd ["script"] (spOk K 1 F_law) := by
  have e := hfa.symm.trans (PySem.W.mg_of X G a12)
  cases e
  let T : Txt w K mg := {
    f_is_meeting_row := f0, fd_is_meeting_row := _, F_is_meeting_row := fun_mk (st := s_is_meeting_row) l0 c0 k0, b_is_meeting_row := (fun_mk (st := s_is_meeting_row) l0 c0 k0).binds (ps := ["row"]) (fun _ _ _ _ _ _ us hl => match us, hl with | [_], _ => rfl), g_is_meeting_row := PySem.W.mg_of X G a0,
    f_check_meeting := f1, fd_check_meeting := _, F_check_meeting := fun_mk (st := s_check_meeting) l1 c1 k1, b_check_meeting := (fun_mk (st := s_check_meeting) l1 c1 k1).binds (ps := ["rows"]) (fun _ _ _ _ _ _ us hl => match us, hl with | [_], _ => rfl), g_check_meeting := PySem.W.mg_of X G a1,
    f_wins_of_both := f2, fd_wins_of_both := _, F_wins_of_both := fun_mk (st := s_wins_of_both) l2 c2 k2, b_wins_of_both := (fun_mk (st := s_wins_of_both) l2 c2 k2).binds (ps := ["rows"]) (fun _ _ _ _ _ _ us hl => match us, hl with | [_], _ => rfl), g_wins_of_both := PySem.W.mg_of X G a2,
    f_l_feed := f3, fd_l_feed := _, F_l_feed := fun_mk (st := s_l_feed) l3 c3 k3, b_l_feed := (fun_mk (st := s_l_feed) l3 c3 k3).binds (ps := ["script"]) (fun _ _ _ _ _ _ us hl => match us, hl with | [_], _ => rfl), g_l_feed := PySem.W.mg_of X G a3,
    f_l_draw := f4, fd_l_draw := _, F_l_draw := fun_mk (st := s_l_draw) l4 c4 k4, b_l_draw := (fun_mk (st := s_l_draw) l4 c4 k4).binds (ps := ["feed", "many"]) (fun _ _ _ _ _ _ us hl => match us, hl with | [_, _], _ => rfl), g_l_draw := PySem.W.mg_of X G a4,
    f_l_is_whole := f5, fd_l_is_whole := _, F_l_is_whole := fun_mk (st := s_l_is_whole) l5 c5 k5, b_l_is_whole := (fun_mk (st := s_l_is_whole) l5 c5 k5).binds (ps := ["x"]) (fun _ _ _ _ _ _ us hl => match us, hl with | [_], _ => rfl), g_l_is_whole := PySem.W.mg_of X G a5,
    f_l_meeting := f6, fd_l_meeting := _, F_l_meeting := fun_mk (st := s_l_meeting) l6 c6 k6, b_l_meeting := (fun_mk (st := s_l_meeting) l6 c6 k6).binds (ps := ["feed", "a", "b"]) (fun _ _ _ _ _ _ us hl => match us, hl with | [_, _, _], _ => rfl), g_l_meeting := PySem.W.mg_of X G a6,
    f_l_fault := f7, fd_l_fault := _, F_l_fault := fun_mk (st := s_l_fault) l7 c7 k7, b_l_fault := (fun_mk (st := s_l_fault) l7 c7 k7).binds (ps := ["rows"]) (fun _ _ _ _ _ _ us hl => match us, hl with | [_], _ => rfl), g_l_fault := PySem.W.mg_of X G a7,
    f_l_wins := f8, fd_l_wins := _, F_l_wins := fun_mk (st := s_l_wins) l8 c8 k8, b_l_wins := (fun_mk (st := s_l_wins) l8 c8 k8).binds (ps := ["rows"]) (fun _ _ _ _ _ _ us hl => match us, hl with | [_], _ => rfl), g_l_wins := PySem.W.mg_of X G a8,
    f_l_checked := f9, fd_l_checked := _, F_l_checked := fun_mk (st := s_l_checked) l9 c9 k9, b_l_checked := (fun_mk (st := s_l_checked) l9 c9 k9).binds (ps := ["rows"]) (fun _ _ _ _ _ _ us hl => match us, hl with | [_], _ => rfl), g_l_checked := PySem.W.mg_of X G a9,
    f_l_counted := f10, fd_l_counted := _, F_l_counted := fun_mk (st := s_l_counted) l10 c10 k10, b_l_counted := (fun_mk (st := s_l_counted) l10 c10 k10).binds (ps := ["rows"]) (fun _ _ _ _ _ _ us hl => match us, hl with | [_], _ => rfl), g_l_counted := PySem.W.mg_of X G a10,
    f_l_near := f11, fd_l_near := _, F_l_near := fun_mk (st := s_l_near) l11 c11 k11, b_l_near := (fun_mk (st := s_l_near) l11 c11 k11).binds (ps := ["feed", "rows"]) (fun _ _ _ _ _ _ us hl => match us, hl with | [_, _], _ => rfl), g_l_near := PySem.W.mg_of X G a11,
    f_law := fa, fd_law := _, F_law := fun_mk (st := s_law) l12 c12 k12, b_law := (fun_mk (st := s_law) l12 c12 k12).binds (ps := ["script"]) (fun _ _ _ _ _ _ us hl => match us, hl with | [_], _ => rfl), g_law := PySem.W.mg_of X G a12,
    C_ClubError := C_ClubError, g_ClubError := PySem.W.mg_of X G aC_ClubError,
    C_BadTable := C_BadTable, g_BadTable := PySem.W.mg_of X G aC_BadTable,
    C_BadScores := C_BadScores, g_BadScores := PySem.W.mg_of X G aC_BadScores,
    fI_BadTable := fI_BadTable, fd_BadTable := _, X_BadTable := ⟨PySem.W.mg_of X G aC_BadTable, ⟨⟨nm_BadTable, q_BadTable, N_BadTable, bs_BadTable, _, sn_BadTable, sub_BadTable, ab_BadTable, col_BadTable, dd_BadTable, m0_BadTable, m1_BadTable, m2_BadTable, m3_BadTable, m5_BadTable, xL_BadTable, by rfl⟩, sa_BadTable, eC_BadTable, tC_BadTable, kC_BadTable⟩, ai_BadTable, ti_BadTable⟩, I_BadTable := fun_mk (st := si_BadTable) li_BadTable ci_BadTable ki_BadTable, B_BadTable := (fun_mk (st := si_BadTable) li_BadTable ci_BadTable ki_BadTable).binds (ps := ["self", "at"]) (fun _ _ _ _ _ _ us hl => match us, hl with | [_, _], _ => rfl),
    n_BadTable_at := nf_at_BadTable,
    e_BadTable_ClubError := PySem.W.exm_ref eC_ClubError hC_ClubError tC_ClubError sb_BadTable_ClubError,
    k_BadTable := ⟨ga_BadTable, gg_BadTable, eC_BadTable, hC_BadTable, cc_BadTable, gn, gt, mo_BadTable⟩,
    i_BadTable_BadTable := kit_ref hC_BadTable tC_BadTable sb_BadTable_BadTable sb_BadTable_BadTable,
    i_BadTable_BadScores := kit_ref hC_BadScores tC_BadScores sb_BadTable_BadTable sb_BadTable_BadScores,
    i_BadTable_ValueError := kit_ve sv_BadTable,
    fI_BadScores := fI_BadScores, fd_BadScores := _, X_BadScores := ⟨PySem.W.mg_of X G aC_BadScores, ⟨⟨nm_BadScores, q_BadScores, N_BadScores, bs_BadScores, _, sn_BadScores, sub_BadScores, ab_BadScores, col_BadScores, dd_BadScores, m0_BadScores, m1_BadScores, m2_BadScores, m3_BadScores, m5_BadScores, xL_BadScores, by rfl⟩, sa_BadScores, eC_BadScores, tC_BadScores, kC_BadScores⟩, ai_BadScores, ti_BadScores⟩, I_BadScores := fun_mk (st := si_BadScores) li_BadScores ci_BadScores ki_BadScores, B_BadScores := (fun_mk (st := si_BadScores) li_BadScores ci_BadScores ki_BadScores).binds (ps := ["self", "at"]) (fun _ _ _ _ _ _ us hl => match us, hl with | [_, _], _ => rfl),
    n_BadScores_at := nf_at_BadScores,
    e_BadScores_ClubError := PySem.W.exm_ref eC_ClubError hC_ClubError tC_ClubError sb_BadScores_ClubError,
    k_BadScores := ⟨ga_BadScores, gg_BadScores, eC_BadScores, hC_BadScores, cc_BadScores, gn, gt, mo_BadScores⟩,
    i_BadScores_BadTable := kit_ref hC_BadTable tC_BadTable sb_BadScores_BadScores sb_BadScores_BadTable,
    i_BadScores_BadScores := kit_ref hC_BadScores tC_BadScores sb_BadScores_BadScores sb_BadScores_BadScores,
    i_BadScores_ValueError := kit_ve sv_BadScores,
    h_BadScores_at := ⟨⟨ga_BadScores, gg_BadScores, eC_BadScores, hC_BadScores⟩, nf_at_BadScores, rfl, fun j hj => by omega⟩,
    h_BadTable_at := ⟨⟨ga_BadTable, gg_BadTable, eC_BadTable, hC_BadTable⟩, nf_at_BadTable, rfl, fun j hj => by omega⟩,
    m_ValueError := PySem.W.mg_none_of X G z_ValueError,
    m_abs := PySem.W.mg_none_of X G z_abs,
    m_all := PySem.W.mg_none_of X G z_all,
    m_bool := PySem.W.mg_none_of X G z_bool,
    m_enumerate := PySem.W.mg_none_of X G z_enumerate,
    m_int := PySem.W.mg_none_of X G z_int,
    m_isinstance := PySem.W.mg_none_of X G z_isinstance,
    m_len := PySem.W.mg_none_of X G z_len,
    m_list := PySem.W.mg_none_of X G z_list,
    m_range := PySem.W.mg_none_of X G z_range,
    m_tuple := PySem.W.mg_none_of X G z_tuple,
    c_MOST_IN_CLUB := ⟨t_MOST_IN_CLUB, PySem.W.mg_of X G y_MOST_IN_CLUB⟩ }
  exact ⟨_, fun s v => .of_eq rfl, fun base _ _ => fn_weak (ok_law (P := l.prog) (w := w) (base := base) T) fun _ _ _ _ h => sp_ok h⟩
end LAW
end

section
set_option autoImplicit false
namespace PV
section
variable (s0 : Slot) (q0 : Env)
@[simp] theorem eVar_e (i : Nat) : eVar i (s0 :: q0) = (match (s0 :: q0)[i]? with
  | some (.fz d) => some (.fz d, (s0 :: q0))
  | some (.own _) => some (.bor i, (s0 :: q0))
  | some (.io _ _) => some (.bor i, (s0 :: q0))
  | _ => none) := Eq.trans rfl rfl
@[simp] theorem eC_e (d : D) : eC d (s0 :: q0) = some (.fz d, (s0 :: q0)) := Eq.trans rfl rfl
@[simp] theorem eNil_e : eNil (s0 :: q0) = some ([], (s0 :: q0)) := Eq.trans rfl rfl
@[simp] theorem tTrue_e : tTrue (s0 :: q0) = some (true, (s0 :: q0)) := Eq.trans rfl rfl
@[simp] theorem sPass_e : sPass (s0 :: q0) = some (.nxt (s0 :: q0)) := Eq.trans rfl rfl
@[simp] theorem sBrk_e : sBrk (s0 :: q0) = some (.brk (s0 :: q0)) := Eq.trans rfl rfl
@[simp] theorem sCnt_e : sCnt (s0 :: q0) = some (.cnt (s0 :: q0)) := Eq.trans rfl rfl
@[simp] theorem sRetN_e : sRetN (s0 :: q0) = some (.ret (.fz .non) (s0 :: q0)) := Eq.trans rfl rfl
@[simp] theorem pNo_e : pNo (s0 :: q0) = some (none, (s0 :: q0)) := Eq.trans rfl rfl
variable {e1 e2 e3 e4 : Env}
theorem eCons_e {e : E} {es : EL} {r : RV} {rs : List RV} (h : e (s0 :: q0) = some (r, e1)) (h2 : es e1 = some (rs, e2)) : eCons e es (s0 :: q0) = some (r.settle :: rs, e2) := by
  simp [eCons, h, h2]
end

@[simp] theorem shal_non (n : Nat) : D.shal n .non = true := by cases n <;> rfl
@[simp] theorem shal_bl (n : Nat) (b : Bool) : D.shal n (.bl b) = true := by cases n <;> rfl
@[simp] theorem shal_int (n : Nat) (b : Int) : D.shal n (.int b) = true := by cases n <;> rfl
@[simp] theorem shal_str (n : Nat) (b : List Nat) : D.shal n (.str b) = true := by cases n <;> rfl
@[simp] theorem shal_lst (n : Nat) (b : List D) : D.shal (n + 1) (.lst b) = shalL n b := Eq.trans rfl rfl
@[simp] theorem shal_tup (n : Nat) (b : List D) : D.shal (n + 1) (.tup b) = shalL n b := Eq.trans rfl rfl
@[simp] theorem shal_lst40 (b : List D) : D.shal 40 (.lst b) = shalL 39 b := Eq.trans rfl rfl
@[simp] theorem shal_tup40 (b : List D) : D.shal 40 (.tup b) = shalL 39 b := Eq.trans rfl rfl
@[simp] theorem shalL_nil (n : Nat) : shalL n [] = true := by cases n <;> rfl
@[simp] theorem shalL_cons (n : Nat) (x : D) (xs : List D) : shalL n (x :: xs) = (x.shal n && shalL n xs) := by cases n <;> rfl
theorem shalL_all (n : Nat) (xs : List D) : shalL n xs = xs.all (D.shal n) := by
  induction xs with
  | nil => simp
  | cons x xs ih => simp [ih]
@[simp] theorem shalL_ints (n : Nat) (l : List Int) : shalL n (l.map D.int) = true := by
  induction l with
  | nil => simp
  | cons x xs ih => simp [ih]
@[simp] theorem shalL_ints' {α : Type} (n : Nat) (f : α → Int) (l : List α) : shalL n (l.map fun x => D.int (f x)) = true := by
  induction l with
  | nil => simp
  | cons x xs ih => simp [ih]
@[simp] theorem eqv_int (i j : Int) : D.eqv (.int i) (.int j) = (i == j) := Eq.trans rfl rfl
@[simp] theorem eqv_bl (i j : Bool) : D.eqv (.bl i) (.bl j) = (i == j) := Eq.trans rfl rfl
@[simp] theorem eqv_str (i j : List Nat) : D.eqv (.str i) (.str j) = (i == j) := Eq.trans rfl rfl
@[simp] theorem eqv_lst (i j : List D) : D.eqv (.lst i) (.lst j) = eqvL i j := Eq.trans rfl rfl
@[simp] theorem eqv_tup (i j : List D) : D.eqv (.tup i) (.tup j) = eqvL i j := Eq.trans rfl rfl
@[simp] theorem eqvL_nil : eqvL [] [] = true := Eq.trans rfl rfl
@[simp] theorem eqvL_cons (x y : D) (xs ys : List D) : eqvL (x :: xs) (y :: ys) = (D.eqv x y && eqvL xs ys) := Eq.trans rfl rfl
@[simp] theorem eqvL_ints (a b : List Int) : eqvL (a.map D.int) (b.map D.int) = (a == b) := by
  induction a generalizing b with
  | nil => cases b <;> simp [eqvL]
  | cons x xs ih => cases b with
    | nil => simp [eqvL]
    | cons y ys => simp [ih]
@[simp] theorem truth_bl (b : Bool) : truth (.bl b) = some b := Eq.trans rfl rfl
@[simp] theorem truth_int (b : Int) : truth (.int b) = some (b != 0) := Eq.trans rfl rfl
@[simp] theorem truth_lst (b : List D) : truth (.lst b) = some (!b.isEmpty) := Eq.trans rfl rfl
@[simp] theorem truth_non : truth .non = some false := Eq.trans rfl rfl
@[simp] theorem dEq_int (i j : Int) : dEq (.int i) (.int j) = some (.fz (.bl (decide (i = j)))) := by simp [dEq]; rw [Bool.eq_iff_iff]; simp
@[simp] theorem dNe_int (i j : Int) : dNe (.int i) (.int j) = some (.fz (.bl (!decide (i = j)))) := by
  simp [dNe]; rw [Bool.eq_iff_iff]; simp
@[simp] theorem dEq_bl (i j : Bool) : dEq (.bl i) (.bl j) = some (.fz (.bl (i == j))) := by simp [dEq]
@[simp] theorem dNe_bl (i j : Bool) : dNe (.bl i) (.bl j) = some (.fz (.bl (i != j))) := by simp [dNe, bne]
@[simp] theorem dEq_str (i j : List Nat) : dEq (.str i) (.str j) = some (.fz (.bl (decide (i = j)))) := by simp [dEq]; rw [Bool.eq_iff_iff]; simp
@[simp] theorem dNe_str (i j : List Nat) : dNe (.str i) (.str j) = some (.fz (.bl (!decide (i = j)))) := by
  simp [dNe]; rw [Bool.eq_iff_iff]; simp
@[simp] theorem dEq_ints (a b : List Int) : dEq (.lst (a.map D.int)) (.lst (b.map D.int)) = some (.fz (.bl (decide (a = b)))) := by
  simp [dEq]; rw [Bool.eq_iff_iff]; simp
@[simp] theorem dNe_ints (a b : List Int) : dNe (.lst (a.map D.int)) (.lst (b.map D.int)) = some (.fz (.bl (!decide (a = b)))) := by
  simp [dNe]; rw [Bool.eq_iff_iff]; simp
@[simp] theorem dAdd_int (a b : Int) : dAdd (.int a) (.int b) = some (.fz (.int (a + b))) := Eq.trans rfl rfl
@[simp] theorem dSub_int (a b : Int) : dSub (.int a) (.int b) = some (.fz (.int (a - b))) := Eq.trans rfl rfl
@[simp] theorem addI_int (a b : Int) : addI (.int a) (.int b) = some (.int (a + b)) := Eq.trans rfl rfl
@[simp] theorem subI_int (a b : Int) : subI (.int a) (.int b) = some (.int (a - b)) := Eq.trans rfl rfl
@[simp] theorem dNeg_int (a : Int) : dNeg (.int a) = some (.fz (.int (-a))) := Eq.trans rfl rfl
theorem dMul_int {a b : Int} (h : mulOk a b = true) : dMul (.int a) (.int b) = some (.fz (.int (a * b))) := by simp [dMul, h]
theorem dDiv_int {a b : Int} (h : 0 < b) (h2 : b < 2 ^ 64) : dDiv (.int a) (.int b) = some (.fz (.int (a / b))) := by
  have h3 : b.natAbs.log2 < 9000 := by
    have : b.natAbs.log2 < 64 := (Nat.log2_lt (by omega)).2 (by omega)
    omega
  simp only [dDiv]; rw [if_pos ⟨h, h3⟩]
theorem dMod_int {a b : Int} (h : 0 < b) : dMod (.int a) (.int b) = some (.fz (.int (a % b))) := by simp [dMod, h]
@[simp] theorem dLt_int (a b : Int) : dLt (.int a) (.int b) = some (.fz (.bl (decide (a < b)))) := Eq.trans rfl rfl
@[simp] theorem dLe_int (a b : Int) : dLe (.int a) (.int b) = some (.fz (.bl (decide (a ≤ b)))) := Eq.trans rfl rfl
@[simp] theorem dGt_int (a b : Int) : dGt (.int a) (.int b) = some (.fz (.bl (decide (b < a)))) := Eq.trans rfl rfl
@[simp] theorem dGe_int (a b : Int) : dGe (.int a) (.int b) = some (.fz (.bl (decide (b ≤ a)))) := Eq.trans rfl rfl
@[simp] theorem dNot_bl (b : Bool) : dNot (.bl b) = some (.fz (.bl (!b))) := Eq.trans rfl rfl
@[simp] theorem dLen_lst (xs : List D) : dLen [.lst xs] = some (.fz (.int xs.length)) := Eq.trans rfl rfl
@[simp] theorem dLen_tup (xs : List D) : dLen [.tup xs] = some (.fz (.int xs.length)) := Eq.trans rfl rfl
@[simp] theorem dLen_str (xs : List Nat) : dLen [.str xs] = some (.fz (.int xs.length)) := Eq.trans rfl rfl
@[simp] theorem dAbs_int (i : Int) : dAbs [.int i] = some (.fz (.int (if i < 0 then -i else i))) := Eq.trans rfl rfl
@[simp] theorem dInt_int (i : Int) : dInt [.int i] = some (.fz (.int i)) := Eq.trans rfl rfl
@[simp] theorem dInt_bl (i : Bool) : dInt [.bl i] = some (.fz (.int (if i then 1 else 0))) := Eq.trans rfl rfl
@[simp] theorem dBool_int (i : Int) : dBool [.int i] = some (.fz (.bl (i != 0))) := Eq.trans rfl rfl
@[simp] theorem dBool_bl (i : Bool) : dBool [.bl i] = some (.fz (.bl i)) := Eq.trans rfl rfl
@[simp] theorem dList_lst (xs : List D) : dList [.lst xs] = some (.own (.lst xs)) := Eq.trans rfl rfl
@[simp] theorem dList_tup (xs : List D) : dList [.tup xs] = some (.own (.lst xs)) := Eq.trans rfl rfl
@[simp] theorem dList_scr (xs : List Int) : dList [.scr xs] = some (.own (.lst (xs.map D.int))) := Eq.trans rfl rfl
@[simp] theorem dTuple_lst (xs : List D) : dTuple [.lst xs] = some (.fz (.tup xs)) := Eq.trans rfl rfl
@[simp] theorem dTuple_tup (xs : List D) : dTuple [.tup xs] = some (.fz (.tup xs)) := Eq.trans rfl rfl
@[simp] theorem dRev_lst (xs : List D) : dRev (.lst xs) = some (.own (.lst xs.reverse)) := Eq.trans rfl rfl
@[simp] theorem dMax_two (a b : Int) : dMax [.int a, .int b] = some (.fz (.int (max a b))) := by
  simp only [dMax]; congr 2; congr 1; split <;> omega
@[simp] theorem dMin_two (a b : Int) : dMin [.int a, .int b] = some (.fz (.int (min a b))) := by
  simp only [dMin]; congr 2; congr 1; split <;> omega
/-- a list at a natural number -/
theorem getAt_nat {α : Type} {xs : List α} {i : Int} (h : 0 ≤ i) (h2 : i < xs.length) : getAt xs i = xs[i.toNat]? := by
  simp [getAt, ixOf, h, h2]
theorem getAt_at {α : Type} {xs : List α} {i : Int} {x : α} (h : 0 ≤ i) (hx : xs[i.toNat]? = some x) : getAt xs i = some x := by
  have := (List.getElem?_eq_some_iff.1 hx).1
  rw [getAt_nat h (by omega), hx]
@[simp] theorem getAt_ofNat {α : Type} (xs : List α) (i : Nat) : getAt xs (i : Int) = xs[i]? := by
  simp only [getAt, ixOf]
  by_cases h : i < xs.length
  · simp [h]
  · simp [h]
@[simp] theorem getAt_zero {α : Type} (x : α) (xs : List α) : getAt (x :: xs) 0 = some x := getAt_ofNat (x :: xs) 0
@[simp] theorem getAt_one {α : Type} (x y : α) (xs : List α) : getAt (x :: y :: xs) 1 = some y := getAt_ofNat (x :: y :: xs) 1
@[simp] theorem getAt_two {α : Type} (x y z : α) (xs : List α) : getAt (x :: y :: z :: xs) 2 = some z := getAt_ofNat (x :: y :: z :: xs) 2
@[simp] theorem getAt_three {α : Type} (x y z u : α) (xs : List α) : getAt (x :: y :: z :: u :: xs) 3 = some u := getAt_ofNat (x :: y :: z :: u :: xs) 3
@[simp] theorem dIdx_lst (xs : List D) (i : Int) : dIdx (.lst xs) (.int i) = (match getAt xs i with
    | some d => some (.fz d)
    | none => none) := Eq.trans rfl rfl
@[simp] theorem dIdx_tup (xs : List D) (i : Int) : dIdx (.tup xs) (.int i) = (match getAt xs i with
    | some d => some (.fz d)
    | none => none) := Eq.trans rfl rfl
@[simp] theorem dIdx_str (xs : List Nat) (i : Int) : dIdx (.str xs) (.int i) = (match getAt xs i with
    | some d => some (.fz (.str [d]))
    | none => none) := Eq.trans rfl rfl
@[simp] theorem getL_lst (xs : List D) (i : Int) : getL (.lst xs) (.int i) = getAt xs i := Eq.trans rfl rfl
theorem setL_nat {xs : List D} {i : Int} {d : D} (h : 0 ≤ i) (h2 : i < xs.length) : setL (.lst xs) (.int i) d = some (.lst (xs.set i.toNat d)) := by
  simp [setL, ixOf, h, h2]
theorem dIsi_int (d : D) (h : d.scal = true) : dIsi .int d = some (.fz (.bl (match d with | .int _ => true | .bl _ => true | _ => false))) := by
  cases d <;> first | rfl | (simp [D.scal] at h)

/-! ### loops -/
theorem forL_ind {tg : Tg} {body : S} (ds : List D) {env : Env} (P : Nat → Env → Prop) (h0 : P 0 env)
    (hs : ∀ k (hk : k < ds.length) e, P k e → ∃ e1, tg.put ds[k] e = some e1 ∧ ∃ e2, (body e1 = some (.nxt e2) ∨ body e1 = some (.cnt e2)) ∧ P (k + 1) e2) :
    ∃ e, forL tg body ds env = some (.nxt e) ∧ P ds.length e := by
  induction ds generalizing env P with
  | nil => exact ⟨env, rfl, h0⟩
  | cons d ds ih =>
    obtain ⟨e1, a, e2, b, c⟩ := hs 0 (by simp) env h0
    obtain ⟨e, x, y⟩ := ih (env := e2) (fun k => P (k + 1)) c (fun k hk e he => hs (k + 1) (by simp; omega) e he)
    refine ⟨e, ?_, y⟩
    simp only [List.getElem_cons_zero] at a
    simp only [forL, a]
    rcases b with b | b <;> simp [b, x]
/-- a loop that ends at the first that is not ok -/
theorem forL_all {tg : Tg} {body : S} (ok : D → Bool) (Q : Env → Prop) (q : RV) (ds : List D) {env : Env} (h0 : Q env)
    (hs : ∀ d ∈ ds, ∀ e, Q e → ∃ e1, tg.put d e = some e1 ∧ ∃ e2, Q e2 ∧ (if ok d = true then body e1 = some (.nxt e2) ∨ body e1 = some (.cnt e2) else body e1 = some (.ret q e2))) :
    ∃ e, Q e ∧ forL tg body ds env = some (if ds.all ok = true then .nxt e else .ret q e) := by
  induction ds generalizing env with
  | nil => exact ⟨env, h0, by simp [forL]⟩
  | cons d ds ih =>
    obtain ⟨e1, a, e2, hq, b⟩ := hs d (by simp) env h0
    by_cases h : ok d = true
    · rw [if_pos h] at b
      obtain ⟨e, x, y⟩ := ih hq fun d hd => hs d (by simp [hd])
      refine ⟨e, x, ?_⟩
      simp only [forL, a]
      rcases b with b | b <;> simp [b, y, h]
    · rw [if_neg h] at b
      exact ⟨e2, hq, by simp [forL, a, b, h]⟩
/-- a comprehension whose parts change nothing -/
theorem lcL_pure {tg : Tg} {t : T} {elt : E} {vs : List Nat} (p : D → Bool) (f : D → D) (ds acc : List D) (env : Env) (Q : Env → Prop) (h0 : Q env)
    (hs : ∀ d ∈ ds, ∀ e, Q e → ∃ e1, tg.put d (wipeE vs e) = some e1 ∧ ∃ e2, t e1 = some (p d, e2) ∧
      if p d = true then ∃ r e3 e4, elt e2 = some (r, e3) ∧ r.freeze e3 = some (f d, e4) ∧ Q e4 else Q e2) :
    ∃ e, lcL tg t elt vs ds acc env = some (acc ++ (ds.filter p).map f, e) ∧ Q e := by
  induction ds generalizing acc env with
  | nil => exact ⟨env, by simp [lcL], h0⟩
  | cons d ds ih =>
    obtain ⟨e1, a, e2, b, c⟩ := hs d (by simp) env h0
    by_cases h : p d = true
    · rw [if_pos h] at c
      obtain ⟨r, e3, e4, x, y, z⟩ := c
      obtain ⟨e, u, v⟩ := ih (acc ++ [f d]) e4 z fun d hd => hs d (by simp [hd])
      exact ⟨e, by simp only [lcL, a, b, h, x, y, u, List.filter_cons, if_true, List.map_cons, List.append_assoc, List.cons_append, List.nil_append], v⟩
    · rw [if_neg h] at c
      obtain ⟨e, u, v⟩ := ih acc e2 c fun d hd => hs d (by simp [hd])
      exact ⟨e, by simp [lcL, a, b, h, u], v⟩
theorem eLc_pure {it : I} {tg : Tg} {t : T} {elt : E} {vs : List Nat} (p : D → Bool) (f : D → D) {ds : List D} {env env1 env2 : Env} (Q : Env → Prop) (hit : it env = some (ds, env1))
    (hw : wipeable vs env1 = true) (h0 : Q env1)
    (hs : ∀ d ∈ ds, ∀ e, Q e → ∃ e1, tg.put d (wipeE vs e) = some e1 ∧ ∃ e2, t e1 = some (p d, e2) ∧
      if p d = true then ∃ r e3 e4, elt e2 = some (r, e3) ∧ r.freeze e3 = some (f d, e4) ∧ Q e4 else Q e2)
    (hb : ∀ e, Q e → backE vs env1 e = env2) :
    eLc it tg t elt vs env = some (.own (.lst ((ds.filter p).map f)), env2) := by
  obtain ⟨e, x, y⟩ := lcL_pure (tg := tg) (t := t) (elt := elt) (vs := vs) p f ds [] env1 Q h0 hs
  simp [eLc, hit, hw, x, hb e y]

def rng (b : Int) (env1 : Env) : Option (List D × Env) := if b.natAbs ≤ big then some ((rangeL 0 b).map D.int, env1) else none
theorem rng_nat {n : Nat} (hn : n ≤ 1000) (env : Env) : rng (n : Int) env = some ((List.range n).map fun i => D.int (i : Nat), env) := by
  have h3 : (n : Int).natAbs ≤ big := by simp only [big]; omega
  rw [rng, if_pos h3]; simp [rangeL, Function.comp_def]
def put1 : Slot → Env → Option Env
  | .io _ _, _ => none
  | _, e => some e
@[simp] theorem put1_un (e : Env) : put1 .un e = some e := Eq.trans rfl rfl
@[simp] theorem put1_fz (d : D) (e : Env) : put1 (.fz d) e = some e := Eq.trans rfl rfl
@[simp] theorem put1_own (d : D) (e : Env) : put1 (.own d) e = some e := Eq.trans rfl rfl
/-- a slot that may be set -/
def free (s : Slot) : Prop := ∀ k d, s ≠ .io k d
theorem put1_free {s : Slot} (h : free s) (e : Env) : put1 s e = some e := by
  cases s with
  | io k d => exact (h k d rfl).elim
  | _ => rfl
theorem free_un : free .un := fun _ _ h => nomatch h
theorem free_fz (d : D) : free (.fz d) := fun _ _ h => nomatch h
theorem free_own (d : D) : free (.own d) := fun _ _ h => nomatch h
/-- a slot of a loop's name -/
def lp (s : Slot) : Prop := s = .un ∨ ∃ d, s = .fz d
theorem lp.free {s : Slot} (h : lp s) : free s := by
  rcases h with rfl | ⟨d, rfl⟩
  · exact free_un
  · exact free_fz d
theorem lp_un : lp .un := .inl rfl
theorem lp_fz (d : D) : lp (.fz d) := .inr ⟨d, rfl⟩
section
variable (s0 : Slot) (q0 : Env)
@[simp] theorem eCons_s (e : E) (es : EL) : eCons e es (s0 :: q0) = (match e (s0 :: q0) with
  | none => none
  | some (r, env1) => match es env1 with
    | none => none
    | some (rs, env2) => some (r.settle :: rs, env2)) := Eq.trans rfl rfl
@[simp] theorem eUn_s (fo : D → Option RV) (a : E) : eUn fo a (s0 :: q0) = (match a (s0 :: q0) with
  | none => none
  | some (r, env1) => match r.peek env1 with
    | none => none
    | some d => match fo d with
      | none => none
      | some q => some (q, env1)) := Eq.trans rfl rfl
@[simp] theorem eBin_s (fo : D → D → Option RV) (a b : E) : eBin fo a b (s0 :: q0) = (match a (s0 :: q0) with
  | none => none
  | some (ra, env1) => match b env1 with
    | none => none
    | some (rb, env2) => match ra.peek env2, rb.peek env2 with
      | some x, some y => match fo x y with
        | none => none
        | some q => some (q, env2)
      | _, _ => none) := Eq.trans rfl rfl
@[simp] theorem eB_s (fo : List D → Option RV) (es : EL) : eB fo es (s0 :: q0) = (match es (s0 :: q0) with
  | none => none
  | some (rs, env1) => match peekAll env1 rs with
    | none => none
    | some ds => match fo ds with
      | none => none
      | some q => some (q, env1)) := Eq.trans rfl rfl
@[simp] theorem eLst_s (es : EL) : eLst es (s0 :: q0) = (match es (s0 :: q0) with
  | none => none
  | some (rs, env1) => match freezeAll rs env1 with
    | none => none
    | some (ds, env2) => if ds.length ≤ 16777216 then some (.own (.lst ds), env2) else none) := Eq.trans rfl rfl
@[simp] theorem eTup_s (es : EL) : eTup es (s0 :: q0) = (match es (s0 :: q0) with
  | none => none
  | some (rs, env1) => match freezeAll rs env1 with
    | none => none
    | some (ds, env2) => if ds.length ≤ 16777216 then some (.fz (.tup ds), env2) else none) := Eq.trans rfl rfl
@[simp] theorem tE_s (a : E) : tE a (s0 :: q0) = (match a (s0 :: q0) with
  | none => none
  | some (r, env1) => match r.peek env1 with
    | none => none
    | some d => match truth d with
      | none => none
      | some b => some (b, env1)) := Eq.trans rfl rfl
@[simp] theorem tNot_s (t : T) : tNot t (s0 :: q0) = (match t (s0 :: q0) with
  | none => none
  | some (b, env1) => some (!b, env1)) := Eq.trans rfl rfl
@[simp] theorem tAnd_s (t u : T) : tAnd t u (s0 :: q0) = (match t (s0 :: q0) with
  | none => none
  | some (b, env1) => if b = true then u env1 else some (false, env1)) := Eq.trans rfl rfl
@[simp] theorem tOr_s (t u : T) : tOr t u (s0 :: q0) = (match t (s0 :: q0) with
  | none => none
  | some (b, env1) => if b = true then some (true, env1) else u env1) := Eq.trans rfl rfl
@[simp] theorem tB_s (a : E) : tB a (s0 :: q0) = (match a (s0 :: q0) with
  | some (.fz (.bl b), env1) => some (b, env1)
  | _ => none) := Eq.trans rfl rfl
@[simp] theorem eAnd_s (a b : E) : eAnd a b (s0 :: q0) = (match a (s0 :: q0) with
  | some (.fz (.bl c), env1) => if c = true then b env1 else some (.fz (.bl false), env1)
  | _ => none) := Eq.trans rfl rfl
@[simp] theorem eOr_s (a b : E) : eOr a b (s0 :: q0) = (match a (s0 :: q0) with
  | some (.fz (.bl c), env1) => if c = true then some (.fz (.bl true), env1) else b env1
  | _ => none) := Eq.trans rfl rfl
@[simp] theorem eIf_s (t : T) (a b : E) : eIf t a b (s0 :: q0) = (match t (s0 :: q0) with
  | none => none
  | some (c, env1) => if c = true then a env1 else b env1) := Eq.trans rfl rfl
@[simp] theorem sSeq_s (a b : S) : sSeq a b (s0 :: q0) = (match a (s0 :: q0) with
  | none => none
  | some (.nxt env1) => b env1
  | some o => some o) := Eq.trans rfl rfl
@[simp] theorem sExpr_s (e : E) : sExpr e (s0 :: q0) = (match e (s0 :: q0) with
  | none => none
  | some (_, env1) => some (.nxt env1)) := Eq.trans rfl rfl
@[simp] theorem sRet_s (e : E) : sRet e (s0 :: q0) = (match e (s0 :: q0) with
  | none => none
  | some (r, env1) => some (.ret r env1)) := Eq.trans rfl rfl
@[simp] theorem sIf_s (t : T) (a b : S) : sIf t a b (s0 :: q0) = (match t (s0 :: q0) with
  | none => none
  | some (c, env1) => if c = true then a env1 else b env1) := Eq.trans rfl rfl
@[simp] theorem putSlot_s (i : Nat) (s : Slot) : putSlot i s (s0 :: q0) = (match (s0 :: q0)[i]? with
  | none => none
  | some t => put1 t ((s0 :: q0).set i s)) := by
  unfold putSlot
  cases (s0 :: q0)[i]? with
  | none => rfl
  | some t => cases t <;> rfl
@[simp] theorem sSet_s (i : Nat) (e : E) : sSet i e (s0 :: q0) = (match e (s0 :: q0) with
  | none => none
  | some (.own d, env1) => match putSlot i (.own d) env1 with
    | none => none
    | some env2 => some (.nxt env2)
  | some (.tre d, env1) => match putSlot i (.tre d) env1 with
    | none => none
    | some env2 => some (.nxt env2)
  | some (r, env1) => match r.freeze env1 with
    | none => none
    | some (d, env2) => match putSlot i (.fz d) env2 with
      | none => none
      | some env3 => some (.nxt env3)) := Eq.trans rfl rfl
@[simp] theorem put_nm (i : Nat) (d : D) : Tg.put (.nm i) d (s0 :: q0) = putSlot i (.fz d) (s0 :: q0) := by simp [Tg.put]
@[simp] theorem put_tp (ts : List Tg) (ds : List D) : Tg.put (.tp ts) (.tup ds) (s0 :: q0) = putL ts ds (s0 :: q0) := by simp [Tg.put]
@[simp] theorem putL_nil : putL [] [] (s0 :: q0) = some (s0 :: q0) := by simp [putL]
@[simp] theorem putL_cons (t : Tg) (ts : List Tg) (d : D) (ds : List D) : putL (t :: ts) (d :: ds) (s0 :: q0) = (match t.put d (s0 :: q0) with
    | none => none
    | some env1 => putL ts ds env1) := by rw [putL] <;> cases Tg.put t d (s0 :: q0) <;> rfl
@[simp] theorem sFor_s (it : I) (tg : Tg) (body : S) : sFor it tg body (s0 :: q0) = (match it (s0 :: q0) with
  | none => none
  | some (ds, env1) => forL tg body ds env1) := Eq.trans rfl rfl
@[simp] theorem upSlot_s (j : Nat) (d : D) : upSlot j d (s0 :: q0) = (match (s0 :: q0)[j]? with
  | some (.own _) => some ((s0 :: q0).set j (.own d))
  | some (.io k _) => some ((s0 :: q0).set j (.io k d))
  | _ => none) := Eq.trans rfl rfl
@[simp] theorem heldAt_bor (j : Nat) : heldAt (s0 :: q0) (.bor j) = (match (s0 :: q0)[j]? with
    | some (.own d) => some (j, d)
    | some (.io _ d) => some (j, d)
    | _ => none) := Eq.trans rfl rfl
@[simp] theorem sSetIx_s (fs : D → D → D → Option D) (o ix val : E) : sSetIx fs o ix val (s0 :: q0) = (match val (s0 :: q0) with
  | none => none
  | some (rv, env1) => match rv.freeze env1 with
    | none => none
    | some (x, env2) => match o env2 with
      | none => none
      | some (ro, env3) => match ix env3 with
        | none => none
        | some (ri, env4) => match heldAt env4 ro, ri.peek env4 with
          | some (j, c), some k => match fs c k x with
            | none => none
            | some c' => match upSlot j c' env4 with
              | none => none
              | some env5 => some (.nxt env5)
          | _, _ => none) := Eq.trans rfl rfl
@[simp] theorem sAugIx_s (fg : D → D → Option D) (fo : D → D → Option D) (fs : D → D → D → Option D) (o ix e : E) : sAugIx fg fo fs o ix e (s0 :: q0) = (match o (s0 :: q0) with
  | none => none
  | some (ro, env1) => match ix env1 with
    | none => none
    | some (ri, env2) => match heldAt env2 ro, ri.peek env2 with
      | some (_, c), some k => match fg c k with
        | none => none
        | some x => match e env2 with
          | none => none
          | some (re, env3) => match re.peek env3 with
            | none => none
            | some y => match fo x y with
              | none => none
              | some z => match heldAt env3 ro, ri.settle.peek env3 with
                | some (j, c'), some k' => match fs c' k' z with
                  | none => none
                  | some c'' => match upSlot j c'' env3 with
                    | none => none
                    | some env4 => some (.nxt env4)
                | _, _ => none
      | _, _ => none) := Eq.trans rfl rfl
@[simp] theorem eMut_s (ty : D → Bool) (fm : D → List D → Option (D × RV)) (o : E) (es : EL) : eMut ty fm o es (s0 :: q0) = (match o (s0 :: q0) with
  | none => none
  | some (ro, env1) => match heldAt env1 ro with
    | none => none
    | some (_, c0) => if ty c0 = true then
        match es env1 with
        | none => none
        | some (rs, env2) => match freezeAll rs env2 with
          | none => none
          | some (ds, env3) => match heldAt env3 ro with
            | none => none
            | some (j, c) => match fm c ds with
              | none => none
              | some (c', res) => match upSlot j c' env3 with
                | none => none
                | some env4 => some (res, env4)
      else none) := Eq.trans rfl rfl
@[simp] theorem eMeth_s (ty : D → Bool) (fm : D → List D → Option RV) (o : E) (es : EL) : eMeth ty fm o es (s0 :: q0) = (match o (s0 :: q0) with
  | none => none
  | some (ro, env1) => match ro.peek env1 with
    | none => none
    | some c0 => if ty c0 = true then
        match es env1 with
        | none => none
        | some (rs, env2) => match ro.settle.peek env2, peekAll env2 rs with
          | some c, some ds => match fm c ds with
            | none => none
            | some res => some (res, env2)
          | _, _ => none
      else none) := Eq.trans rfl rfl
@[simp] theorem isL_lst (xs : List D) : isL (.lst xs) = true := Eq.trans rfl rfl
@[simp] theorem isS_str (xs : List Nat) : isS (.str xs) = true := Eq.trans rfl rfl
@[simp] theorem pAt_s (e : E) : pAt e (s0 :: q0) = (match e (s0 :: q0) with
  | none => none
  | some (r, env1) => match r.peek env1 with
    | some (.int i) => some (some i, env1)
    | _ => none) := Eq.trans rfl rfl
@[simp] theorem eCut_s (a : E) (lo hi : EPart) : eCut a lo hi (s0 :: q0) = (match a (s0 :: q0) with
  | none => none
  | some (ra, env1) => match lo env1 with
    | none => none
    | some (l, env2) => match hi env2 with
      | none => none
      | some (h, env3) => match ra.settle.peek env3 with
        | none => none
        | some c => match dCut c l h with
          | none => none
          | some q => some (q, env3)) := Eq.trans rfl rfl
@[simp] theorem iVal_s (e : E) : iVal e (s0 :: q0) = (match e (s0 :: q0) with
  | none => none
  | some (r, env1) => match r.freeze env1 with
    | some (.lst ds, env2) => some (ds, env2)
    | some (.tup ds, env2) => some (ds, env2)
    | some (.str s, env2) => some (s.map fun c => D.str [c], env2)
    | _ => none) := Eq.trans rfl rfl
@[simp] theorem iEnum_s (e : E) : iEnum e (s0 :: q0) = (match e (s0 :: q0) with
  | none => none
  | some (r, env1) => match r.freeze env1 with
    | some (.lst ds, env2) => some (enumL 0 ds, env2)
    | _ => none) := Eq.trans rfl rfl
@[simp] theorem iRange1_s (a : E) : iRange1 a (s0 :: q0) = (match a (s0 :: q0) with
  | none => none
  | some (r, env1) => match r.peek env1 with
    | some (.int b) => rng b env1
    | _ => none) := Eq.trans rfl rfl
@[simp] theorem eCallO_s (G : Fn) (ms : List Bool) (es : EL) : eCallO G ms es (s0 :: q0) = (match es (s0 :: q0) with
  | none => none
  | some (rs, env1) => match argsOf env1 ms rs with
    | none => none
    | some as => if apart (ioIx ms rs) (borIx ms rs) = true then
        match G as with
        | none => none
        | some (.ok r outs) => match setOuts (ioIx ms rs) outs (if (r.flat && (ioIx ms rs).isEmpty) = true then env1 else fixAll (borIx ms rs) env1) with
          | none => none
          | some env2 => some (.val r env2)
        | some (.exc c ds outs) => match setOuts (ioIx ms rs) outs (fixAll (borIx ms rs) env1) with
          | none => none
          | some env2 => some (.exc c ds env2)
      else none) := Eq.trans rfl rfl
@[simp] theorem eCall_s (G : Fn) (ms : List Bool) (es : EL) : eCall G ms es (s0 :: q0) = (match eCallO G ms es (s0 :: q0) with
  | some (.val r env1) => some (r, env1)
  | _ => none) := Eq.trans rfl rfl
end
@[simp] theorem fnOf_s (n : Nat) (body : S) (as : List Arg) : fnOf n body as = (match body (argSlots 0 as ++ List.replicate (n - as.length) .un) with
  | some (.nxt env) => match outsOf 0 as env with
    | none => none
    | some outs => some (.ok (.fz .non) outs)
  | some (.ret r env) => match handed env r, outsOf 0 as env with
    | some q, some outs => some (.ok q outs)
    | _, _ => none
  | some (.exc c ds env) => match outsOf 0 as env with
    | none => none
    | some outs => some (.exc c ds outs)
  | _ => none) := Eq.trans rfl rfl

@[simp] theorem if_and_e (p : Prop) [Decidable p] (b : Bool) (e : Env) : (if p then some (b, e) else some (false, e)) = some (decide p && b, e) := by by_cases h : p <;> simp [h]
@[simp] theorem if_or_e (p : Prop) [Decidable p] (b : Bool) (e : Env) : (if p then some (true, e) else some (b, e)) = some (decide p || b, e) := by by_cases h : p <;> simp [h]
@[simp] theorem if_andv_e (p : Prop) [Decidable p] (b : Bool) (e : Env) : (if p then some (RV.fz (.bl b), e) else some (RV.fz (.bl false), e)) = some (RV.fz (.bl (decide p && b)), e) := by by_cases h : p <;> simp [h]
@[simp] theorem if_orv_e (p : Prop) [Decidable p] (b : Bool) (e : Env) : (if p then some (RV.fz (.bl true), e) else some (RV.fz (.bl b), e)) = some (RV.fz (.bl (decide p || b)), e) := by by_cases h : p <;> simp [h]
theorem mulOk_r (a : Int) {b : Int} (h : b < 2 ^ 64) (h2 : -(2 ^ 64) < b) : mulOk a b = true := by
  have e : decide (b.natAbs < 2 ^ 64) = true := decide_eq_true (by omega)
  unfold mulOk; rw [e]; simp
theorem dMul_r (a : Int) {b : Int} (h : b < 2 ^ 64) (h2 : -(2 ^ 64) < b) : dMul (.int a) (.int b) = some (.fz (.int (a * b))) := dMul_int (mulOk_r a h h2)
theorem setL_0 (x d : D) (xs : List D) : setL (.lst (x :: xs)) (.int 0) d = some (.lst (d :: xs)) := by rw [setL_nat (by omega) (by simp)]; rfl
theorem setL_1 (x y d : D) (xs : List D) : setL (.lst (x :: y :: xs)) (.int 1) d = some (.lst (x :: d :: xs)) := by rw [setL_nat (by omega) (by simp; omega)]; rfl
theorem setL_2 (x y z d : D) (xs : List D) : setL (.lst (x :: y :: z :: xs)) (.int 2) d = some (.lst (x :: y :: d :: xs)) := by rw [setL_nat (by omega) (by simp; omega)]; rfl
theorem setL_3 (x y z u d : D) (xs : List D) : setL (.lst (x :: y :: z :: u :: xs)) (.int 3) d = some (.lst (x :: y :: z :: d :: xs)) := by rw [setL_nat (by omega) (by simp; omega)]; rfl
/-- the feed of a law -/
def fd (ns : List Int) (p q s : Int) : D := .lst [.lst (ns.map D.int), .int p, .int q, .int s]
def Good (d : D) : Prop := ∃ ns p q s, d = fd ns p q s ∧ 0 ≤ p ∧ 0 ≤ q ∧ 0 ≤ s ∧ s < 2147483647

/-! ### runs -/
def Run (s : S) (env : Env) (Q : Out → Prop) : Prop := ∃ o, s env = some o ∧ Q o
theorem Run.of {s : S} {env : Env} {o : Out} {Q : Out → Prop} (h : s env = some o) (q : Q o) : Run s env Q := ⟨o, h, q⟩
theorem Run.mono {s : S} {env : Env} {Q Q' : Out → Prop} (h : Run s env Q) (q : ∀ o, Q o → Q' o) : Run s env Q' := by
  obtain ⟨o, a, b⟩ := h; exact ⟨o, a, q o b⟩
/-- what follows a part that comes to its end -/
@[simp] def andThen (b : S) (Q : Out → Prop) : Out → Prop
  | .nxt e => Run b e Q
  | o => Q o
@[simp] theorem Run_seq (a b : S) (env : Env) (Q : Out → Prop) : Run (sSeq a b) env Q ↔ Run a env (andThen b Q) := by
  simp only [Run, sSeq]
  cases a env with
  | none => simp
  | some o => cases o <;> simp [andThen, Run]
theorem Run.seq {a b : S} {env : Env} {Q : Out → Prop} (M : Env → Prop) (h : Run a env fun o => match o with | .nxt e => M e | _ => False) (h2 : ∀ e, M e → Run b e Q) : Run (sSeq a b) env Q := by
  obtain ⟨o, x, y⟩ := h
  cases o with
  | nxt e => exact (Run_seq a b env Q).2 ⟨_, x, h2 e y⟩
  | _ => exact y.elim
@[simp] def orElse (a b : S) (Q : Out → Prop) : Option (Bool × Env) → Prop
  | some (c, e) => if c = true then Run a e Q else Run b e Q
  | none => False
@[simp] theorem Run_if (t : T) (a b : S) (env : Env) (Q : Out → Prop) : Run (sIf t a b) env Q ↔ orElse a b Q (t env) := by
  simp only [Run, sIf]
  cases t env with
  | none => simp
  | some o => obtain ⟨c, e⟩ := o; cases c <;> simp [Run]
theorem Run.ite {t : T} {a b : S} {env e : Env} {c : Bool} {Q : Out → Prop} (h : t env = some (c, e)) (h1 : c = true → Run a e Q) (h2 : c = false → Run b e Q) : Run (sIf t a b) env Q := by
  rw [Run_if, h]
  cases c
  · simpa using h2 rfl
  · simpa using h1 rfl
section
variable (s0 : Slot) (q0 : Env) (Q : Out → Prop)
@[simp] theorem Run_set (i : Nat) (e : E) : Run (sSet i e) (s0 :: q0) Q ↔ ∃ o, sSet i e (s0 :: q0) = some o ∧ Q o := ⟨fun h => h, fun h => h⟩
@[simp] theorem Run_setIx (fs : D → D → D → Option D) (o ix e : E) : Run (sSetIx fs o ix e) (s0 :: q0) Q ↔ ∃ o', sSetIx fs o ix e (s0 :: q0) = some o' ∧ Q o' := ⟨fun h => h, fun h => h⟩
@[simp] theorem Run_augIx (fg : D → D → Option D) (fo : D → D → Option D) (fs : D → D → D → Option D) (o ix e : E) : Run (sAugIx fg fo fs o ix e) (s0 :: q0) Q ↔ ∃ o', sAugIx fg fo fs o ix e (s0 :: q0) = some o' ∧ Q o' := ⟨fun h => h, fun h => h⟩
@[simp] theorem Run_expr (e : E) : Run (sExpr e) (s0 :: q0) Q ↔ ∃ o, sExpr e (s0 :: q0) = some o ∧ Q o := ⟨fun h => h, fun h => h⟩
@[simp] theorem Run_ret (e : E) : Run (sRet e) (s0 :: q0) Q ↔ ∃ o, sRet e (s0 :: q0) = some o ∧ Q o := ⟨fun h => h, fun h => h⟩
@[simp] theorem Run_pass : Run sPass (s0 :: q0) Q ↔ Q (.nxt (s0 :: q0)) := by simp [Run]
@[simp] theorem Run_cnt : Run sCnt (s0 :: q0) Q ↔ Q (.cnt (s0 :: q0)) := by simp [Run]
@[simp] theorem Run_brk : Run sBrk (s0 :: q0) Q ↔ Q (.brk (s0 :: q0)) := by simp [Run]
end
/-- what a def hands back -/
@[simp] def handsBack (as : List Arg) (P : Res → Prop) : Out → Prop
  | .nxt env => ∃ outs, outsOf 0 as env = some outs ∧ P (.ok (.fz .non) outs)
  | .ret r env => ∃ q outs, handed env r = some q ∧ outsOf 0 as env = some outs ∧ P (.ok q outs)
  | .exc c ds env => ∃ outs, outsOf 0 as env = some outs ∧ P (.exc c ds outs)
  | _ => False
def Gives (F : Fn) (as : List Arg) (P : Res → Prop) : Prop := ∃ r, F as = some r ∧ P r
theorem gives_of {n : Nat} {body : S} {as : List Arg} {P : Res → Prop} (h : Run body (argSlots 0 as ++ List.replicate (n - as.length) .un) (handsBack as P)) : Gives (fnOf n body) as P := by
  obtain ⟨o, x, y⟩ := h
  cases o with
  | nxt env => obtain ⟨outs, a, b⟩ := y; exact ⟨_, by simp only [fnOf, x, a], b⟩
  | ret r env => obtain ⟨q, outs, a, c, b⟩ := y; exact ⟨_, by simp only [fnOf, x, a, c], b⟩
  | exc c ds env => obtain ⟨outs, a, b⟩ := y; exact ⟨_, by simp only [fnOf, x, a], b⟩
  | brk e => exact y.elim
  | cnt e => exact y.elim

/-! ### ranges, comprehensions of one name -/
theorem rangeL_nat (n : Nat) : rangeL 0 (n : Int) = (List.range n).map fun i => ((i : Nat) : Int) := by simp [rangeL]
@[simp] theorem nm_nat (n : Nat) : (rangeL 0 (n : Int)).map D.int = (List.range n).map fun i => D.int (i : Nat) := by simp [rangeL_nat, Function.comp_def]
theorem eLc_nm {α : Type} (p : α → Bool) (f : α → D) (c : α → D) (l : List α) {it : I} {t : T} {elt : E} {v : Nat} {env : Env} (hit : it env = some (l.map c, env))
    (hv : env[v]? = some .un ∨ ∃ d, env[v]? = some (.fz d))
    (ht : ∀ x ∈ l, t (env.set v (.fz (c x))) = some (p x, env.set v (.fz (c x))))
    (he : ∀ x ∈ l, p x = true → elt (env.set v (.fz (c x))) = some (.fz (f x), env.set v (.fz (c x)))) :
    eLc it (.nm v) t elt [v] env = some (.own (.lst ((l.filter p).map f)), env) := by
  have hlt : v < env.length := by
    rcases hv with h | ⟨d, h⟩ <;> exact (List.getElem?_eq_some_iff.1 h).1
  have hw : wipeable [v] env = true := by rcases hv with h | ⟨d, h⟩ <;> simp [wipeable, h]
  have key : ∀ (l : List α) (acc : List D) (e : Env), (∀ x ∈ l, t (env.set v (.fz (c x))) = some (p x, env.set v (.fz (c x)))) →
      (∀ x ∈ l, p x = true → elt (env.set v (.fz (c x))) = some (.fz (f x), env.set v (.fz (c x)))) → (∃ s, e = env.set v s) →
      ∃ e', lcL (.nm v) t elt [v] (l.map c) acc e = some (acc ++ (l.filter p).map f, e') ∧ ∃ s, e' = env.set v s := by
    intro l
    induction l with
    | nil => intro acc e _ _ he; exact ⟨e, by simp [lcL], he⟩
    | cons x l ih =>
      intro acc e ht he hs
      obtain ⟨s, rfl⟩ := hs
      have hput : Tg.put (.nm v) (c x) (wipeE [v] (env.set v s)) = some (env.set v (.fz (c x))) := by
        simp [Tg.put, putSlot, wipeE, hlt]
      by_cases h : p x = true
      · obtain ⟨e', a, b⟩ := ih (acc ++ [f x]) (env.set v (.fz (c x))) (fun y hy => ht y (by simp [hy])) (fun y hy => he y (by simp [hy])) ⟨_, rfl⟩
        refine ⟨e', ?_, b⟩
        rw [List.map_cons, lcL, hput]
        simp only [ht x (by simp), h, he x (by simp) h, RV.freeze]
        rw [a]; simp [h]
      · obtain ⟨e', a, b⟩ := ih acc (env.set v (.fz (c x))) (fun y hy => ht y (by simp [hy])) (fun y hy => he y (by simp [hy])) ⟨_, rfl⟩
        refine ⟨e', ?_, b⟩
        rw [List.map_cons, lcL, hput]
        simp only [ht x (by simp), h]
        rw [a]; simp [h]
  obtain ⟨e', a, s, rfl⟩ := key l [] env ht he ⟨env[v], by simp⟩
  simp only [eLc, hit, hw, if_true, a]
  simp [backE, List.getD, hlt]
/-- a comprehension whose parts change what is held -/
theorem eLc_fx {α : Type} (Q : Nat → List D → Env → Prop) (c : α → D) (l : List α) {it : I} {t : T} {elt : E} {vs : List Nat} {tg : Tg} {env env1 : Env} {P : RV × Env → Prop} (hit : it env = some (l.map c, env1))
    (hw : wipeable vs env1 = true) (h0 : Q 0 [] env1)
    (hs : ∀ k (hk : k < l.length) acc e, Q k acc e → ∃ e1, tg.put (c l[k]) (wipeE vs e) = some e1 ∧ ((∃ e2, t e1 = some (false, e2) ∧ Q (k + 1) acc e2) ∨ ∃ e2 r e3 x e4, t e1 = some (true, e2) ∧ elt e2 = some (r, e3) ∧ r.freeze e3 = some (x, e4) ∧ Q (k + 1) (acc ++ [x]) e4))
    (hp : ∀ acc e, Q l.length acc e → P (.own (.lst acc), backE vs env1 e)) :
    ∃ x, eLc it tg t elt vs env = some x ∧ P x := by
  have key : ∀ (l : List α) (Q : Nat → List D → Env → Prop) (acc : List D) (e : Env), Q 0 acc e →
      (∀ k (hk : k < l.length) acc e, Q k acc e → ∃ e1, tg.put (c l[k]) (wipeE vs e) = some e1 ∧ ((∃ e2, t e1 = some (false, e2) ∧ Q (k + 1) acc e2) ∨ ∃ e2 r e3 x e4, t e1 = some (true, e2) ∧ elt e2 = some (r, e3) ∧ r.freeze e3 = some (x, e4) ∧ Q (k + 1) (acc ++ [x]) e4)) →
      ∃ acc' e', lcL tg t elt vs (l.map c) acc e = some (acc', e') ∧ Q l.length acc' e' := by
    intro l
    induction l with
    | nil => intro Q acc e h0 _; exact ⟨acc, e, by simp [lcL], h0⟩
    | cons x l ih =>
      intro Q acc e h0 hs
      obtain ⟨e1, a, b⟩ := hs 0 (by simp) acc e h0
      simp only [List.getElem_cons_zero] at a
      rcases b with ⟨e2, b, q⟩ | ⟨e2, r, e3, y, e4, b1, b2, b3, q⟩
      · obtain ⟨acc', e', u, w⟩ := ih (fun k => Q (k + 1)) acc e2 q fun k hk acc e he => hs (k + 1) (by simp; omega) acc e he
        exact ⟨acc', e', by rw [List.map_cons, lcL, a]; simp only [b]; exact u, w⟩
      · obtain ⟨acc', e', u, w⟩ := ih (fun k => Q (k + 1)) (acc ++ [y]) e4 q fun k hk acc e he => hs (k + 1) (by simp; omega) acc e he
        exact ⟨acc', e', by rw [List.map_cons, lcL, a]; simp only [b1, b2, b3]; exact u, w⟩
  obtain ⟨acc', e', u, w⟩ := key l Q [] env1 h0 hs
  exact ⟨_, by simp only [eLc, hit, hw, if_true, u], hp _ _ w⟩
theorem forL_range {tg : Tg} {body : S} {n : Nat} {env : Env} {Q : Out → Prop} (P : Nat → Env → Prop) (h0 : P 0 env)
    (hs : ∀ k, k < n → ∀ e, P k e → ∃ e1, tg.put (.int k) e = some e1 ∧ Run body e1 fun o => (∃ e2, o = .nxt e2 ∧ P (k + 1) e2) ∨ (∃ e2, o = .cnt e2 ∧ P (k + 1) e2) ∨ (∃ r e2, o = .ret r e2 ∧ Q (.ret r e2)))
    (hq : ∀ e, P n e → Q (.nxt e)) :
    ∃ o, forL tg body ((List.range n).map fun i => D.int (i : Nat)) env = some o ∧ Q o := by
  have key : ∀ (m k : Nat) (e : Env), k + m = n → P k e → ∃ o, forL tg body ((List.range' k m).map fun i => D.int (i : Nat)) e = some o ∧ Q o := by
    intro m
    induction m with
    | zero => intro k e hk he; cases (show k = n by omega); exact ⟨_, rfl, hq e he⟩
    | succ m ih =>
      intro k e hk he
      obtain ⟨e1, a, o, b, c⟩ := hs k (by omega) e he
      simp only [List.range'_succ, List.map_cons, forL, a, b]
      rcases c with ⟨e2, rfl, c⟩ | ⟨e2, rfl, c⟩ | ⟨r, e2, rfl, c⟩
      · exact ih (k + 1) e2 (by omega) c
      · exact ih (k + 1) e2 (by omega) c
      · exact ⟨_, rfl, c⟩
  rw [List.range_eq_range']
  exact key n 0 env (by omega) h0
theorem Run_forRange {it : I} {tg : Tg} {body : S} {n : Nat} {env env1 : Env} {Q : Out → Prop} (hit : it env = some ((List.range n).map fun i => D.int (i : Nat), env1)) (P : Nat → Env → Prop) (h0 : P 0 env1)
    (hs : ∀ k, k < n → ∀ e, P k e → ∃ e1, tg.put (.int k) e = some e1 ∧ Run body e1 fun o => (∃ e2, o = .nxt e2 ∧ P (k + 1) e2) ∨ (∃ e2, o = .cnt e2 ∧ P (k + 1) e2) ∨ (∃ r e2, o = .ret r e2 ∧ Q (.ret r e2)))
    (hq : ∀ e, P n e → Q (.nxt e)) : Run (sFor it tg body) env Q := by
  obtain ⟨o, a, b⟩ := forL_range P h0 hs hq
  exact ⟨o, by simp only [sFor, hit, a], b⟩
theorem eraseIdx_mapI (xs : List Int) (v : Nat) : (xs.map D.int).eraseIdx v = (xs.eraseIdx v).map D.int := by
  induction xs generalizing v with
  | nil => simp
  | cons x xs ih => cases v <;> simp [ih]
theorem mPopAt_nat {xs : List Int} {v : Nat} (h : v < xs.length) (h2 : v < 4294967296) : mPopAt (.lst (xs.map D.int)) [.int v] = some (.lst ((xs.eraseIdx v).map D.int), .fz (.int xs[v])) := by
  have h3 : (v : Int).natAbs < 2 ^ 62 := by omega
  simp only [mPopAt]; rw [if_pos h3]
  simp [ixOf, h, eraseIdx_mapI]
theorem mAppend_ints {xs : List Int} {v : Int} (h : xs.length < big) : mAppend (.lst (xs.map D.int)) [.int v] = some (.lst ((xs ++ [v]).map D.int), .fz .non) := by
  simp [mAppend, h]
theorem mAppend_lst {xs : List D} {v : D} (h : xs.length < big) : mAppend (.lst xs) [v] = some (.lst (xs ++ [v]), .fz .non) := by
  simp [mAppend, h]

@[simp] theorem filter_tt {α : Type} (l : List α) : l.filter (fun _ => true) = l := by induction l <;> simp [*]
theorem gives_ex {F : Fn} {as : List Arg} {P : Res → Prop} {G : Prop} (h : ∀ P' : Res → Prop, (∀ r, P r → P' r) → Gives F as P') (h2 : ∀ r, P r → F as = some r → G) : G := by
  obtain ⟨r, a, b⟩ := h P fun _ h => h
  exact h2 r b a
@[simp] theorem nat_eq_nat (i j : Nat) : ((i : Int) = (j : Int)) ↔ i = j := by omega
@[simp] theorem argSlots_nil (k : Nat) : argSlots k [] = [] := Eq.trans rfl rfl
@[simp] theorem argSlots_fz (k : Nat) (d : D) (r : List Arg) : argSlots k (.fz d :: r) = .fz d :: argSlots k r := Eq.trans rfl rfl
@[simp] theorem argSlots_io (k : Nat) (d : D) (r : List Arg) : argSlots k (.io d :: r) = .io k d :: argSlots (k + 1) r := Eq.trans rfl rfl
@[simp] theorem outsOf_nil (k : Nat) (e : Env) : outsOf k [] e = some [] := by cases e <;> simp [outsOf]
@[simp] theorem outsOf_fz (k : Nat) (d : D) (r : List Arg) (s : Slot) (e : Env) : outsOf k (.fz d :: r) (s :: e) = outsOf k r e := by simp [outsOf]
@[simp] theorem outsOf_io (k j : Nat) (d d' : D) (r : List Arg) (e : Env) : outsOf k (.io d :: r) (.io j d' :: e) = if j = k then
      match outsOf (k + 1) r e with
      | none => none
      | some ds => some (d' :: ds)
    else none := by rw [outsOf] <;> rfl
@[simp] theorem handed_fz (e : Env) (d : D) : handed e (.fz d) = some (.fz d) := Eq.trans rfl rfl
@[simp] theorem handed_own (e : Env) (d : D) : handed e (.own d) = some (.own d) := Eq.trans rfl rfl
@[simp] theorem handed_tre (e : Env) (d : D) : handed e (.tre d) = some (.tre d) := Eq.trans rfl rfl
@[simp] theorem handed_bor (e : Env) (i : Nat) : handed e (.bor i) = (match e[i]? with
    | some (.own d) => some (.own d)
    | some (.fz d) => some (.fz d)
    | some (.tre d) => some (.tre d)
    | _ => none) := Eq.trans rfl rfl
@[simp] theorem argsOf_nil (e : Env) : argsOf e [] [] = some [] := by simp [argsOf]
@[simp] theorem argsOf_fz (e : Env) (ms : List Bool) (rs : List RV) (d : D) : argsOf e (false :: ms) (.fz d :: rs) = (match argsOf e ms rs with
      | none => none
      | some as => some (.fz d :: as)) := by rw [argsOf] <;> rfl
@[simp] theorem argsOf_bor (e : Env) (ms : List Bool) (rs : List RV) (i : Nat) : argsOf e (false :: ms) (.bor i :: rs) = (match e[i]? with
      | some (.own d) => (match argsOf e ms rs with
        | none => none
        | some as => some (.fz d :: as))
      | some (.fz d) => (match argsOf e ms rs with
        | none => none
        | some as => some (.fz d :: as))
      | _ => none) := by rw [argsOf] <;> rfl
@[simp] theorem argsOf_io (e : Env) (ms : List Bool) (rs : List RV) (r : RV) : argsOf e (true :: ms) (r :: rs) = (match heldAt e r with
    | none => none
    | some (_, d) => match argsOf e ms rs with
      | none => none
      | some as => some (.io d :: as)) := by rw [argsOf] <;> rfl
@[simp] theorem ioIx_nil : ioIx [] [] = [] := Eq.trans rfl rfl
@[simp] theorem ioIx_f (ms : List Bool) (r : RV) (rs : List RV) : ioIx (false :: ms) (r :: rs) = ioIx ms rs := by cases r <;> simp [ioIx]
@[simp] theorem ioIx_t (ms : List Bool) (i : Nat) (rs : List RV) : ioIx (true :: ms) (.bor i :: rs) = i :: ioIx ms rs := Eq.trans rfl rfl
@[simp] theorem borIx_nil : borIx [] [] = [] := Eq.trans rfl rfl
@[simp] theorem borIx_t (ms : List Bool) (r : RV) (rs : List RV) : borIx (true :: ms) (r :: rs) = borIx ms rs := by cases r <;> simp [borIx]
@[simp] theorem borIx_b (ms : List Bool) (i : Nat) (rs : List RV) : borIx (false :: ms) (.bor i :: rs) = i :: borIx ms rs := Eq.trans rfl rfl
@[simp] theorem borIx_f (ms : List Bool) (d : D) (rs : List RV) : borIx (false :: ms) (.fz d :: rs) = borIx ms rs := by simp [borIx]
@[simp] theorem apart_nil (bx : List Nat) : apart [] bx = true := Eq.trans rfl rfl
@[simp] theorem apart_cons (i : Nat) (ix bx : List Nat) : apart (i :: ix) bx = (!ix.contains i && !bx.contains i && apart ix bx) := Eq.trans rfl rfl
@[simp] theorem setOuts_nil (e : Env) : setOuts [] [] e = some e := Eq.trans rfl rfl
@[simp] theorem setOuts_cons (e : Env) (i : Nat) (is : List Nat) (d : D) (ds : List D) : setOuts (i :: is) (d :: ds) e = (match upSlot i d e with
    | none => none
    | some env1 => setOuts is ds env1) := by rw [setOuts] <;> rfl
@[simp] theorem fixAll_nil (e : Env) : fixAll [] e = e := Eq.trans rfl rfl
@[simp] theorem fixAll_cons (e : Env) (i : Nat) (is : List Nat) : fixAll (i :: is) e = (match e[i]? with
    | some (.own d) => fixAll is (e.set i (.fz d))
    | _ => fixAll is e) := by rw [fixAll] <;> rfl
@[simp] theorem flat_fz (d : D) : RV.flat (.fz d) = d.scal := Eq.trans rfl rfl
@[simp] theorem flat_own (ds : List D) : RV.flat (.own (.lst ds)) = ds.all D.scal := Eq.trans rfl rfl
@[simp] theorem scal_int (i : Int) : D.scal (.int i) = true := Eq.trans rfl rfl
@[simp] theorem scal_bl (i : Bool) : D.scal (.bl i) = true := Eq.trans rfl rfl
@[simp] theorem scal_str (i : List Nat) : D.scal (.str i) = true := Eq.trans rfl rfl
@[simp] theorem scal_non : D.scal .non = true := Eq.trans rfl rfl
@[simp] theorem scal_lst (xs : List D) : D.scal (.lst xs) = false := Eq.trans rfl rfl
@[simp] theorem scal_tup (xs : List D) : D.scal (.tup xs) = false := Eq.trans rfl rfl
theorem Run_for {it : I} {tg : Tg} {body : S} {ds : List D} {env env1 : Env} {Q : Out → Prop} (hit : it env = some (ds, env1)) (P : Nat → Env → Prop) (h0 : P 0 env1)
    (hs : ∀ k (hk : k < ds.length) e, P k e → ∃ e1, tg.put ds[k] e = some e1 ∧ Run body e1 fun o => ∃ e2, (o = .nxt e2 ∨ o = .cnt e2) ∧ P (k + 1) e2)
    (hq : ∀ e, P ds.length e → Q (.nxt e)) : Run (sFor it tg body) env Q := by
  obtain ⟨e, a, b⟩ := forL_ind (tg := tg) (body := body) ds P h0 fun k hk e he => by
    obtain ⟨e1, x, o, y, e2, z, t⟩ := hs k hk e he
    exact ⟨e1, x, e2, by rcases z with rfl | rfl <;> simp [y], t⟩
  exact ⟨_, by simp only [sFor, hit, a], hq e b⟩
theorem cut_sub {α : Type} {xs : List α} {lo hi : Option Int} {x : α} (h : x ∈ cut xs lo hi) : x ∈ xs := List.mem_of_mem_drop (List.mem_of_mem_take h)
theorem cut_all {α : Type} {xs : List α} {p : α → Bool} (h : xs.all p = true) (lo hi : Option Int) : (cut xs lo hi).all p = true := by
  rw [List.all_eq_true] at h ⊢
  exact fun x hx => h x (cut_sub hx)
theorem cut_len {α : Type} (xs : List α) (lo hi : Option Int) : (cut xs lo hi).length ≤ xs.length := by
  simp only [cut, List.length_take, List.length_drop]; omega
@[simp] theorem dCut_lst (xs : List D) (lo hi : Option Int) : dCut (.lst xs) lo hi = some (.own (.lst (cut xs lo hi))) := Eq.trans rfl rfl
theorem dAdd_lst {a b : List D} (h : a.length + b.length ≤ 100000) : dAdd (.lst a) (.lst b) = some (.own (.lst (a ++ b))) := by
  simp only [dAdd]; rw [if_pos (by simp only [big]; omega)]
/-! ### lists of whole numbers -/
def nat (k : Nat) : D := .int (k : Nat)
@[simp] theorem eqvL_nats (a b : List Nat) : eqvL (a.map nat) (b.map nat) = (a == b) := by
  induction a generalizing b with
  | nil => cases b <;> simp [eqvL]
  | cons x xs ih => cases b with
    | nil => simp [eqvL]
    | cons y ys => simp [ih, nat]; rw [Bool.eq_iff_iff]; simp
@[simp] theorem shalL_nats (n : Nat) (l : List Nat) : shalL n (l.map nat) = true := by
  induction l with
  | nil => simp
  | cons x xs ih => simp [ih, nat]
theorem nats_scal (ks : List Nat) : (ks.map nat).all D.scal = true := by simp [nat]
theorem dNe_nats (a b : List Nat) : dNe (.lst (a.map nat)) (.lst (b.map nat)) = some (.fz (.bl (!decide (a = b)))) := by
  simp [dNe]; rw [Bool.eq_iff_iff]; simp
theorem dEq_nats (a b : List Nat) : dEq (.lst (a.map nat)) (.lst (b.map nat)) = some (.fz (.bl (decide (a = b)))) := by
  simp [dEq]; rw [Bool.eq_iff_iff]; simp
theorem any_nats (l : List Nat) (k : Nat) : ((l.map nat).any fun y => y.eqv (.int (k : Nat))) = decide (k ∈ l) := by
  rw [Bool.eq_iff_iff]; simp [nat]
theorem dIn_nats (l : List Nat) (k : Nat) : dIn (.int (k : Nat)) (.lst (l.map nat)) = some (.fz (.bl (decide (k ∈ l)))) := by
  simp only [dIn, dInB, shal_int, shalL_nats, Bool.and_self, if_true, any_nats]
theorem dNotIn_nats (l : List Nat) (k : Nat) : dNotIn (.int (k : Nat)) (.lst (l.map nat)) = some (.fz (.bl (!decide (k ∈ l)))) := by
  simp only [dNotIn, dInB, shal_int, shalL_nats, Bool.and_self, if_true, any_nats]
theorem asInts_nats (l : List Nat) : asInts (l.map nat) = some (l.map fun k => ((k : Nat) : Int)) := by
  have : l.map nat = (l.map fun k => ((k : Nat) : Int)).map D.int := by simp [nat, Function.comp_def]
  rw [this, asInts_map]
theorem maxI_nats : ∀ {l : List Nat}, l ≠ [] → ∃ m : Nat, maxI (l.map fun k => ((k : Nat) : Int)) = m ∧ m ∈ l ∧ ∀ x ∈ l, x ≤ m
  | [], h => (h rfl).elim
  | [x], _ => ⟨x, by simp [maxI], by simp, by simp⟩
  | x :: y :: l, _ => by
    obtain ⟨m, a, b, c⟩ := maxI_nats (l := y :: l) (by simp)
    refine ⟨max x m, ?_, ?_, ?_⟩
    · simp only [List.map_cons] at a ⊢
      rw [maxI, a]; omega
    · rcases Nat.le_total x m with h | h
      · rw [Nat.max_eq_right h]; exact List.mem_cons_of_mem _ b
      · rw [Nat.max_eq_left h]; simp
    · intro z hz
      rcases List.mem_cons.1 hz with rfl | hz
      · omega
      · have := c z hz; omega
theorem dMax_nats {l : List Nat} (h : l ≠ []) : ∃ m : Nat, dMax [.lst (l.map nat)] = some (.fz (.int m)) ∧ m ∈ l ∧ ∀ x ∈ l, x ≤ m := by
  obtain ⟨m, a, b⟩ := maxI_nats h
  refine ⟨m, ?_, b⟩
  cases l with
  | nil => exact (h rfl).elim
  | cons x l =>
    have e := asInts_nats (x :: l)
    unfold dMax
    simp only [e]
    show some (RV.fz (.int (maxI ((x :: l).map fun k => ((k : Nat) : Int))))) = _
    rw [a]
theorem idxOf_nats {m : Nat} : ∀ {l : List Nat} {k : Nat}, m ∈ l → ∃ j, idxOf (.int (m : Nat)) (l.map nat) k = some (k + j) ∧ l[j]? = some m
  | [], _, h => by simp at h
  | x :: l, k, h => by
    rw [List.map_cons, idxOf]
    by_cases e : x = m
    · exact ⟨0, by simp [nat, e], by simp [e]⟩
    · have : m ∈ l := by
        rcases List.mem_cons.1 h with h | h
        · exact (e h.symm).elim
        · exact h
      obtain ⟨j, a, b⟩ := idxOf_nats (k := k + 1) this
      refine ⟨j + 1, ?_, by simpa using b⟩
      have e2 : ¬ (D.eqv (nat x) (.int (m : Nat)) = true) := by simp [nat, e]
      rw [if_neg e2, a]; congr 1; omega
theorem mIndex_nats {l : List Nat} {m : Nat} (h : m ∈ l) : ∃ j : Nat, mIndex (.lst (l.map nat)) [.int (m : Nat)] = some (.fz (.int j)) ∧ l[j]? = some m := by
  obtain ⟨j, a, b⟩ := idxOf_nats (k := 0) h
  refine ⟨j, ?_, b⟩
  simp only [mIndex, scal_int, nats_scal, Bool.and_self, if_true, a, Nat.zero_add]
def nx (M : Env → Prop) : Out → Prop
  | .nxt e => M e
  | _ => False
@[simp] theorem nx_nxt (M : Env → Prop) (e : Env) : nx M (.nxt e) = M e := Eq.trans rfl rfl
theorem rseq {a b : S} {env : Env} {Q : Out → Prop} (M : Env → Prop) (h : Run a env (nx M)) (h2 : ∀ e, M e → Run b e Q) : Run (sSeq a b) env Q := by
  obtain ⟨o, x, y⟩ := h
  cases o with
  | nxt e => exact (Run_seq a b env Q).2 ⟨_, x, h2 e y⟩
  | _ => exact y.elim
end PV
end

section
set_option autoImplicit false
namespace PV
/-! ### ranges of two, enumerate, bits -/
def rng2 (a b : Int) (env1 : Env) : Option (List D × Env) := if a.natAbs ≤ big ∧ b.natAbs ≤ big ∧ (b - a).toNat ≤ big then some ((rangeL a b).map D.int, env1) else none
theorem rng2_nat {a b : Nat} (ha : a ≤ 100000) (hb : b ≤ 100000) (env : Env) : rng2 (a : Int) (b : Int) env = some ((List.range' a (b - a)).map nat, env) := by
  rw [rng2, if_pos (by simp only [big]; omega)]
  have e : ((b : Int) - a).toNat = b - a := by omega
  congr 1
  congr 1
  simp only [rangeL, e]
  rw [List.range'_eq_map_range]
  simp [nat, Function.comp_def]
section
variable (s0 : Slot) (q0 : Env)
@[simp] theorem iRange2_s (es : EL) : iRange2 es (s0 :: q0) = (match es (s0 :: q0) with
  | none => none
  | some (rs, env1) => match peekAll env1 rs with
    | some [.int a, .int b] => rng2 a b env1
    | _ => none) := Eq.trans rfl rfl
@[simp] theorem eChain_s (fo fo' : D → D → Option RV) (a b c : E) : eChain fo fo' a b c (s0 :: q0) = (match a (s0 :: q0) with
  | none => none
  | some (ra, env1) => match b env1 with
    | none => none
    | some (rb, env2) => match ra.peek env2, rb.peek env2 with
      | some x, some y => match fo x y with
        | some (.fz (.bl k)) => if k = true then
            match c env2 with
            | none => none
            | some (rc, env3) => match rb.peek env3, rc.peek env3 with
              | some y, some z => match fo' y z with
                | none => none
                | some q => some (q, env3)
              | _, _ => none
          else some (.fz (.bl false), env2)
        | _ => none
      | _, _ => none) := Eq.trans rfl rfl
@[simp] theorem sAsg_s (tg : Tg) (e : E) : sAsg tg e (s0 :: q0) = (match e (s0 :: q0) with
  | none => none
  | some (r, env1) => match r.freeze env1 with
    | none => none
    | some (d, env2) => match tg.put d env2 with
      | none => none
      | some env3 => some (.nxt env3)) := Eq.trans rfl rfl
@[simp] theorem Run_asg (Q : Out → Prop) (tg : Tg) (e : E) : Run (sAsg tg e) (s0 :: q0) Q ↔ ∃ o, sAsg tg e (s0 :: q0) = some o ∧ Q o := ⟨fun h => h, fun h => h⟩
end
theorem enumL_map {α : Type} (f : α → D) : ∀ (l : List α) (k : Nat), enumL k (l.map f) = (List.range' k l.length).zipWith (fun i d => D.tup [nat i, d]) (l.map f)
  | [], _ => rfl
  | x :: l, k => by
    rw [List.map_cons, enumL, enumL_map f l (k + 1)]
    simp [List.range'_succ, nat]
theorem enumL_range (f : Nat → D) (n : Nat) : enumL 0 ((List.range n).map f) = (List.range n).map fun i => .tup [nat i, f i] := by
  rw [enumL_map, List.range_eq_range']
  apply List.ext_getElem
  · simp
  · intro i h1 h2; simp
theorem bit_and (m k : Nat) : ((((m / 2 ^ k : Nat) &&& 1 : Nat) : Int) = 1) ↔ m.testBit k = true := by
  rw [Nat.testBit, Nat.shiftRight_eq_div_pow]
  have : (m / 2 ^ k) &&& 1 = (m / 2 ^ k) % 2 := Nat.and_one_is_mod _
  rw [Nat.and_comm 1, this]
  have h2 : (m / 2 ^ k) % 2 < 2 := Nat.mod_lt _ (by omega)
  generalize (m / 2 ^ k) % 2 = x at h2 ⊢
  have : x = 0 ∨ x = 1 := by omega
  rcases this with rfl | rfl <;> simp
theorem dShr_nat (m k : Nat) : dShr (.int (m : Nat)) (.int (k : Nat)) = some (.fz (.int ((m : Int) / 2 ^ k))) := by
  simp [dShr]
theorem bitD (m k : Nat) : dAnd (.int ((m : Int) / 2 ^ k)) (.int 1) = some (.fz (.int (if m.testBit k = true then 1 else 0))) := by
  have e : ((m : Int) / 2 ^ k) = ((m / 2 ^ k : Nat) : Int) := by simp
  rw [e]
  have h1 : (0 : Int) ≤ ((m / 2 ^ k : Nat) : Int) ∧ (0 : Int) ≤ 1 := ⟨Int.natCast_nonneg _, by decide⟩
  simp only [dAnd]; rw [if_pos h1]
  have h2 := bit_and m k
  have h3 : (((m / 2 ^ k : Nat) : Int)).toNat = m / 2 ^ k := Int.toNat_natCast _
  have h4 : (1 : Int).toNat = 1 := rfl
  rw [h3, h4]
  have h5 : (m / 2 ^ k) &&& 1 = (m / 2 ^ k) % 2 := Nat.and_one_is_mod _
  rw [h5] at h2 ⊢
  have h6 : (m / 2 ^ k) % 2 < 2 := Nat.mod_lt _ (by omega)
  by_cases h : m.testBit k = true
  · rw [if_pos h, h2.2 h]
  · rw [if_neg h]
    have : ¬ (((m / 2 ^ k) % 2 : Nat) : Int) = 1 := fun e => h (h2.1 e)
    congr 3
    omega
theorem dShl_one {k : Nat} (h : k ≤ 100000) : dShl (.int 1) (.int (k : Nat)) = some (.fz (.int ((2 ^ k : Nat) : Int))) := by
  have h3 : (0 : Int) ≤ (k : Int) ∧ ((k : Int)).toNat ≤ 100000 ∧ (1 : Int).natAbs < 1000000 := ⟨by omega, by omega, by decide⟩
  simp only [dShl]; rw [if_pos h3]; simp
@[simp] theorem mReverse_lst (xs : List D) : mReverse (.lst xs) [] = some (.lst xs.reverse, .fz .non) := rfl
@[simp] theorem eqvL_mapd (l : List (List Nat)) (m : List (List Nat)) : eqvL (l.map D.str) (m.map D.str) = (l == m) := by
  induction l generalizing m with
  | nil => cases m <;> simp [eqvL]
  | cons x xs ih => cases m with
    | nil => simp [eqvL]
    | cons y ys => simp [ih]
theorem shalL_strs (n : Nat) (l : List (List Nat)) : shalL n (l.map D.str) = true := by
  induction l with
  | nil => simp
  | cons x xs ih => simp [ih]
/-- a list of texts -/
def txs (l : List (List Nat)) : D := .lst (l.map D.str)
theorem dEq_strs (l m : List (List Nat)) : dEq (txs l) (txs m) = some (.fz (.bl (decide (l = m)))) := by
  simp [dEq, txs, shalL_strs]; rw [Bool.eq_iff_iff]; simp
theorem dNe_strs (l m : List (List Nat)) : dNe (txs l) (txs m) = some (.fz (.bl (!decide (l = m)))) := by
  simp [dNe, txs, shalL_strs]; rw [Bool.eq_iff_iff]; simp
/-! ### rows of whole numbers -/
def natR (r : List Nat) : D := .tup (r.map nat)
theorem asRows_nats : ∀ {l : List (List Nat)}, (∀ r ∈ l, r ≠ []) → asRows (l.map natR) = some (l.map fun r => r.map fun k => ((k : Nat) : Int))
  | [], _ => rfl
  | [] :: l, h => (h [] (by simp) rfl).elim
  | (x :: r) :: l, h => by
    have ih := asRows_nats (l := l) fun r hr => h r (by simp [hr])
    have e := asInts_nats (x :: r)
    rw [List.map_cons, natR, List.map_cons, asRows]
    rw [List.map_cons] at e
    rw [e, ih]
    simp
def sortN (l : List (List Nat)) : List (List Nat) := l.mergeSort fun a b => rowLe (a.map fun k => ((k : Nat) : Int)) (b.map fun k => ((k : Nat) : Int))
theorem sortR_nats (l : List (List Nat)) : (sortR (l.map fun r => r.map fun k => ((k : Nat) : Int))).map rowD = (sortN l).map natR := by
  unfold sortR sortN
  rw [← List.map_mergeSort (r := fun a b : List Nat => rowLe (a.map fun k => ((k : Nat) : Int)) (b.map fun k => ((k : Nat) : Int))) (fun _ _ _ _ => rfl), List.map_map]
  congr 1
  funext r
  simp [rowD, natR, nat, Function.comp_def]
theorem dSortedV_rows {l : List (List Nat)} (h : ∀ r ∈ l, r ≠ []) (hl : l.length ≤ 100000) : dSortedV [.lst (l.map natR)] = some (.own (.lst ((sortN l).map natR))) := by
  cases l with
  | nil => simp [dSortedV, asInts, sortN, sortI]
  | cons r l =>
    have e : asInts ((r :: l).map natR) = none := rfl
    have e2 : (((r :: l).map fun r => r.map fun k => ((k : Nat) : Int))).length ≤ 16777216 := by simp at hl ⊢; omega
    simp only [dSortedV, e, asRows_nats h]
    rw [if_pos e2, sortR_nats]
theorem sortN_perm (l : List (List Nat)) : (sortN l).Perm l := List.mergeSort_perm _ _
theorem mem_sortN {l : List (List Nat)} {r : List Nat} : r ∈ sortN l ↔ r ∈ l := (sortN_perm l).mem_iff
theorem sortN_le (l : List (List Nat)) : (sortN l).Pairwise fun a b => (a.map fun k => ((k : Nat) : Int)) ≤ (b.map fun k => ((k : Nat) : Int)) := by
  have := List.pairwise_mergeSort (le := fun a b : List Nat => rowLe (a.map fun k => ((k : Nat) : Int)) (b.map fun k => ((k : Nat) : Int)))
    (fun a b c h1 h2 => by simp only [rowLe, decide_eq_true_eq] at *; exact List.le_trans h1 h2)
    (fun a b => by simp only [rowLe, Bool.or_eq_true, decide_eq_true_eq]; exact List.le_total _ _) l
  refine this.imp fun h => ?_
  simpa [rowLe] using h
theorem sortN_uniq {l m : List (List Nat)} (h : l.Perm m) : sortN l = sortN m := by
  refine List.Perm.eq_of_pairwise (le := fun a b : List Nat => (a.map fun k => ((k : Nat) : Int)) ≤ (b.map fun k => ((k : Nat) : Int))) (fun a b _ _ h1 h2 => ?_) (sortN_le l) (sortN_le m) (((sortN_perm l).trans h).trans (sortN_perm m).symm)
  have e := List.le_antisymm h1 h2
  have inj : ∀ {a b : List Nat}, (a.map fun k => ((k : Nat) : Int)) = (b.map fun k => ((k : Nat) : Int)) → a = b := by
    intro a b h
    have := congrArg (List.map Int.toNat) h
    simpa [Function.comp_def] using this
  exact inj e
theorem natR_eqv (a b : List Nat) : (natR a).eqv (natR b) = decide (a = b) := by
  simp [natR]; rw [Bool.eq_iff_iff]; simp
theorem shalL_natR (n : Nat) (l : List (List Nat)) : shalL (n + 1) (l.map natR) = true := by
  induction l with
  | nil => simp
  | cons x xs ih => simp [ih, natR]
theorem dIn_natR (r : List Nat) (l : List (List Nat)) : dIn (natR r) (.lst (l.map natR)) = some (.fz (.bl (decide (r ∈ l)))) := by
  have h1 : (natR r).shal 40 = true := by simp [natR]
  have h2 : shalL 39 (l.map natR) = true := shalL_natR 38 l
  simp only [dIn, dInB, h1, h2, Bool.and_self, if_true]
  congr 3
  rw [Bool.eq_iff_iff]
  simp [natR_eqv]
end PV
namespace PV
theorem Run_forAll {α : Type} {it : I} {tg : Tg} {body : S} {env env1 : Env} {P : Out → Prop} (l : List α) (c : α → D) (ok : α → Bool) (Q : Env → Prop) (q : RV) (hit : it env = some (l.map c, env1)) (h0 : Q env1)
    (hs : ∀ x ∈ l, ∀ e, Q e → ∃ e1, tg.put (c x) e = some e1 ∧ Run body e1 (fun o => if ok x = true then ∃ e2, Q e2 ∧ (o = .nxt e2 ∨ o = .cnt e2) else ∃ e2, Q e2 ∧ o = .ret q e2))
    (hN : l.all ok = true → ∀ e, Q e → P (.nxt e)) (hR : l.all ok = false → ∀ e, Q e → P (.ret q e)) : Run (sFor it tg body) env P := by
  have key : ∀ (l : List α) (env : Env), Q env → (∀ x ∈ l, ∀ e, Q e → ∃ e1, tg.put (c x) e = some e1 ∧ Run body e1 (fun o => if ok x = true then ∃ e2, Q e2 ∧ (o = .nxt e2 ∨ o = .cnt e2) else ∃ e2, Q e2 ∧ o = .ret q e2)) →
      ∃ e, Q e ∧ forL tg body (l.map c) env = some (if l.all ok = true then .nxt e else .ret q e) := by
    intro l
    induction l with
    | nil => intro env h0 _; exact ⟨env, h0, by simp [forL]⟩
    | cons x l ih =>
      intro env h0 hs
      obtain ⟨e1, a, o, b, d⟩ := hs x (by simp) env h0
      cases h : ok x with
      | true =>
        rw [if_pos h] at d
        obtain ⟨e2, hq, d⟩ := d
        obtain ⟨e, y, z⟩ := ih e2 hq fun x hx => hs x (by simp [hx])
        refine ⟨e, y, ?_⟩
        rw [List.map_cons, forL, a]
        rcases d with rfl | rfl <;> simp [b, z, h]
      | false =>
        rw [if_neg (by simp [h])] at d
        obtain ⟨e2, hq, rfl⟩ := d
        exact ⟨e2, hq, by rw [List.map_cons, forL, a]; simp [b, h]⟩
  obtain ⟨e, y, z⟩ := key l env1 h0 hs
  have z2 : sFor it tg body env = some (if l.all ok = true then .nxt e else .ret q e) := by simp only [sFor, hit, z]
  refine ⟨_, z2, ?_⟩
  cases h : l.all ok with
  | true => exact hN h e y
  | false => exact hR h e y
/-- a loop that gathers -/
theorem Run_forGo {α : Type} {it : I} {tg : Tg} {body : S} {env env1 : Env} {P : Out → Prop} (l : List α) (c : α → D) (Q : Nat → Env → Prop) (hit : it env = some (l.map c, env1)) (h0 : Q 0 env1)
    (hs : ∀ k (hk : k < l.length) e, Q k e → ∃ e1, tg.put (c l[k]) e = some e1 ∧ Run body e1 (nx (Q (k + 1)))) (hP : ∀ e, Q l.length e → P (.nxt e)) : Run (sFor it tg body) env P := by
  refine Run_for hit Q h0 (fun k hk e he => ?_) (by simpa using hP)
  obtain ⟨e1, a, b⟩ := hs k (by simpa using hk) e he
  refine ⟨e1, by simpa using a, b.mono fun o ho => ?_⟩
  cases o with
  | nxt e2 => exact ⟨e2, .inl rfl, ho⟩
  | _ => exact ho.elim
end PV
namespace PV
theorem eLc_nr {α : Type} (p : α → Bool) (f : α → D) (r : α → RV) (hr : ∀ x e, (r x).freeze e = some (f x, e)) (c : α → D) (l : List α) {it : I} {t : T} {elt : E} {v : Nat} {env env1 : Env} (hit : it env = some (l.map c, env1))
    (hv : env1[v]? = some .un ∨ ∃ d, env1[v]? = some (.fz d))
    (ht : ∀ x ∈ l, t (env1.set v (.fz (c x))) = some (p x, env1.set v (.fz (c x))))
    (he : ∀ x ∈ l, p x = true → elt (env1.set v (.fz (c x))) = some (r x, env1.set v (.fz (c x)))) :
    eLc it (.nm v) t elt [v] env = some (.own (.lst ((l.filter p).map f)), env1) := by
  have hlt : v < env1.length := by
    rcases hv with h | ⟨d, h⟩ <;> exact (List.getElem?_eq_some_iff.1 h).1
  have hw : wipeable [v] env1 = true := by rcases hv with h | ⟨d, h⟩ <;> simp [wipeable, h]
  have key : ∀ (l : List α) (acc : List D) (e : Env), (∀ x ∈ l, t (env1.set v (.fz (c x))) = some (p x, env1.set v (.fz (c x)))) →
      (∀ x ∈ l, p x = true → elt (env1.set v (.fz (c x))) = some (r x, env1.set v (.fz (c x)))) → (∃ s, e = env1.set v s) →
      ∃ e', lcL (.nm v) t elt [v] (l.map c) acc e = some (acc ++ (l.filter p).map f, e') ∧ ∃ s, e' = env1.set v s := by
    intro l
    induction l with
    | nil => intro acc e _ _ he; exact ⟨e, by simp [lcL], he⟩
    | cons x l ih =>
      intro acc e ht he hs
      obtain ⟨s, rfl⟩ := hs
      have hput : Tg.put (.nm v) (c x) (wipeE [v] (env1.set v s)) = some (env1.set v (.fz (c x))) := by
        simp [Tg.put, putSlot, wipeE, hlt]
      by_cases h : p x = true
      · obtain ⟨e', a, b⟩ := ih (acc ++ [f x]) (env1.set v (.fz (c x))) (fun y hy => ht y (by simp [hy])) (fun y hy => he y (by simp [hy])) ⟨_, rfl⟩
        refine ⟨e', ?_, b⟩
        rw [List.map_cons, lcL, hput]
        simp only [ht x (by simp), h, he x (by simp) h, hr]
        rw [a]; simp [h]
      · obtain ⟨e', a, b⟩ := ih acc (env1.set v (.fz (c x))) (fun y hy => ht y (by simp [hy])) (fun y hy => he y (by simp [hy])) ⟨_, rfl⟩
        refine ⟨e', ?_, b⟩
        rw [List.map_cons, lcL, hput]
        simp only [ht x (by simp), h]
        rw [a]; simp [h]
  obtain ⟨e', a, s, rfl⟩ := key l [] env1 ht he ⟨env1[v], by simp⟩
  simp only [eLc, hit, hw, if_true, a]
  simp [backE, List.getD, hlt]
theorem fr_own {α : Type} (f : α → D) : ∀ x e, (RV.own (f x)).freeze e = some (f x, e) := fun _ _ => rfl
theorem fr_fz {α : Type} (f : α → D) : ∀ x e, (RV.fz (f x)).freeze e = some (f x, e) := fun _ _ => rfl
end PV
namespace PV
theorem joinS_one (l : List Nat) : joinS [] (l.map fun x => [x]) = l := by
  induction l with
  | nil => rfl
  | cons x l ih => cases l with
    | nil => rfl
    | cons y l => simp only [List.map_cons] at ih ⊢; rw [joinS, ih]; rfl
/-- a text's signs -/
def sgs (l : List Nat) : D := .lst (l.map fun x => D.str [x])
theorem mJoin_one {l : List Nat} (h : l.length ≤ 100000) : mJoin (.str []) [.lst (l.map fun x => D.str [x])] = some (.fz (.str l)) := by
  have e : asStrs (l.map fun x => D.str [x]) = some (l.map fun x => [x]) := by
    have : (l.map fun x => D.str [x]) = (l.map fun x => [x]).map D.str := by simp [Function.comp_def]
    rw [this, asStrs_map]
  have e2 : ((l.map fun x => [x]).map (·.length)).sum = l.length := by
    have : ∀ l : List Nat, ((l.map fun x => [x]).map (·.length)).sum = l.length := fun l => by
      induction l with
      | nil => rfl
      | cons x l ih => rw [List.map_cons, List.map_cons, List.sum_cons, ih, List.length_cons]; simp; omega
    exact this l
  simp only [mJoin, e, e2, joinS_one]
  rw [if_pos (by simp [big]; omega)]
end PV

namespace PV
section
variable (s0 : Slot) (q0 : Env)
@[simp] theorem sRaise_s (c : Nat) (es : EL) : sRaise c es (s0 :: q0) = (match es (s0 :: q0) with
  | none => none
  | some (rs, env1) => match freezeAll rs env1 with
    | none => none
    | some (ds, env2) => some (.exc c ds.reverse env2)) := Eq.trans rfl rfl
@[simp] theorem Run_raise (Q : Out → Prop) (c : Nat) (es : EL) : Run (sRaise c es) (s0 :: q0) Q ↔ ∃ o, sRaise c es (s0 :: q0) = some o ∧ Q o := ⟨fun h => h, fun h => h⟩
end
end PV
namespace PV
theorem rngN {n : Nat} (hn : n ≤ 1000) (env : Env) : rng (n : Int) env = some ((List.range n).map nat, env) := rng_nat hn env
end PV
namespace PV
@[simp] theorem frzS_un : frzS .un = .un := rfl
@[simp] theorem frzS_fz (d : D) : frzS (.fz d) = .fz d := rfl
@[simp] theorem frzS_own (d : D) : frzS (.own d) = .fz d := rfl
@[simp] theorem frzS_io (k : Nat) (d : D) : frzS (.io k d) = .fz d := rfl
/-- a loop over a list that stays held: nothing is told -/
theorem Run_forT {α : Type} {i v : Nat} {t : T} {r : D} {env : Env} {Q : Out → Prop} (l : List α) (c : α → D) (hi : env[i]? = some (.own (.lst (l.map c)))) (hv : v ≠ i) {s0 : Slot} (hs : env[v]? = some s0) (h0 : lp s0)
    (ht : ∀ x ∈ l, ∃ e', t ((env.set v (.fz (c x))).map frzS) = some (false, e')) (hQ : ∀ s, lp s → Q (.nxt (env.set v s))) : Run (sForT i v t r) env Q := by
  have hlt : v < env.length := (List.getElem?_eq_some_iff.1 hs).1
  have key : ∀ (m : List α) (e : Env), (∀ x ∈ m, x ∈ l) → (∃ s, lp s ∧ e = env.set v s) → ∃ s, lp s ∧ forL (.nm v) (sIf (tPure t) (sRet (eC r)) sPass) (m.map c) e = some (.nxt (env.set v s)) := by
    intro m
    induction m with
    | nil => intro e _ ⟨s, h, he⟩; exact ⟨s, h, by simp [forL, he]⟩
    | cons x m ih =>
      intro e hm ⟨s, h, he⟩
      obtain ⟨s', a, b⟩ := ih (env.set v (.fz (c x))) (fun y hy => hm y (by simp [hy])) ⟨_, lp_fz _, rfl⟩
      refine ⟨s', a, ?_⟩
      have hput : Tg.put (.nm v) (c x) e = some (env.set v (.fz (c x))) := by
        subst he
        rcases h with rfl | ⟨d, rfl⟩ <;> simp [Tg.put, putSlot, hlt]
      obtain ⟨e', et⟩ := ht x (hm x (by simp))
      have e1 : tPure t (env.set v (.fz (c x))) = some (false, env.set v (.fz (c x))) := by unfold tPure; rw [et]
      rw [List.map_cons, forL, hput]
      simp only [sIf, e1, Bool.false_eq_true, if_false, sPass]
      exact b
  obtain ⟨s, a, b⟩ := key l env (fun _ h => h) ⟨s0, h0, by
    apply List.ext_getElem?
    intro j
    rw [List.getElem?_set]
    split
    · rename_i h; subst h; exact hs
    · rfl⟩
  refine ⟨_, ?_, hQ s a⟩
  unfold sForT
  rw [hi]
  simp only [hv, ne_eq, not_false_eq_true, if_true]
  exact b
theorem Run_forT_s (i v : Nat) (t : T) (r : D) (env : Env) (Q : Out → Prop) : Run (sForT i v t r) env Q ↔ Run (sForT i v t r) env Q := Iff.rfl
end PV
end

section
set_option autoImplicit false
namespace PV
theorem cut_drop {α : Type} (xs : List α) (k : Nat) : cut xs (some (k : Int)) none = xs.drop k := by
  have h : ¬ (k : Int) < 0 := by omega
  simp only [cut, cutIx, h, if_false, Int.toNat_natCast]
  rcases Nat.le_total k xs.length with h | h
  · rw [Nat.min_eq_left h, List.take_of_length_le (by simp)]
  · rw [Nat.min_eq_right h, List.drop_length, List.drop_of_length_le h]; simp
theorem minI_nats : ∀ {l : List Nat}, l ≠ [] → ∃ m : Nat, minI (l.map fun k => ((k : Nat) : Int)) = m ∧ m ∈ l ∧ ∀ x ∈ l, m ≤ x
  | [], h => (h rfl).elim
  | [x], _ => ⟨x, by simp [minI], by simp, by simp⟩
  | x :: y :: l, _ => by
    obtain ⟨m, a, b, c⟩ := minI_nats (l := y :: l) (by simp)
    refine ⟨min x m, ?_, ?_, ?_⟩
    · simp only [List.map_cons] at a ⊢
      rw [minI, a]; omega
    · rcases Nat.le_total x m with h | h
      · rw [Nat.min_eq_left h]; simp
      · rw [Nat.min_eq_right h]; exact List.mem_cons_of_mem _ b
    · intro z hz
      rcases List.mem_cons.1 hz with rfl | hz
      · omega
      · have := c z hz; omega
theorem dMin_nats {l : List Nat} (h : l ≠ []) : ∃ m : Nat, dMin [.lst (l.map nat)] = some (.fz (nat m)) ∧ m ∈ l ∧ ∀ x ∈ l, m ≤ x := by
  obtain ⟨m, a, b⟩ := minI_nats h
  refine ⟨m, ?_, b⟩
  cases l with
  | nil => exact (h rfl).elim
  | cons x l =>
    have e := asInts_nats (x :: l)
    unfold dMin
    simp only [e]
    show some (RV.fz (.int (minI ((x :: l).map fun k => ((k : Nat) : Int))))) = _
    rw [a]; rfl
theorem mExtend_lst {a b : List D} (h : a.length + b.length ≤ 100000) : mExtend (.lst a) [.lst b] = some (.lst (a ++ b), .fz .non) := by
  simp only [mExtend]; rw [if_pos (by simp only [big]; omega)]
theorem getAt_last {α : Type} {xs : List α} (h : xs ≠ []) : getAt xs (-1) = xs[xs.length - 1]? := by
  have hl : 1 ≤ xs.length := by
    cases xs with
    | nil => exact (h rfl).elim
    | cons x l => simp
  have h1 : ¬ (0 : Int) ≤ -1 := by omega
  have h2 : -(xs.length : Int) ≤ -1 := by omega
  simp only [getAt, ixOf, h1, h2, if_false, if_true, Option.bind]
  congr 1
  omega
theorem getAt_nats {l : List Nat} {i : Nat} (h : i < l.length) : getAt (l.map nat) (i : Int) = some (nat (l.getD i 0)) := by
  simp [List.getD, h]
theorem Run_while {t : T} {body : S} {Q : Out → Prop} (P : Nat → Env → Prop)
    (hs : ∀ k e, P k e → ∃ b e1, t e = some (b, e1) ∧ if b = true then Run body e1 (nx fun e2 => ∃ j, j < k ∧ P j e2) else Q (.nxt e1)) : ∀ (N k : Nat) (env : Env), k < N → P k env → Run (whileL t body N) env Q := by
  intro N
  induction N with
  | zero => intro k env h _; omega
  | succ N ih =>
    intro k env hk hp
    obtain ⟨b, e1, a, c⟩ := hs k env hp
    cases b with
    | false => exact ⟨.nxt e1, by simp only [whileL, a], by simpa using c⟩
    | true =>
      rw [if_pos rfl] at c
      obtain ⟨o, x, y⟩ := c
      cases o with
      | nxt e2 =>
        obtain ⟨j, hj, y⟩ := y
        obtain ⟨o2, z, w⟩ := ih j e2 (by omega) y
        exact ⟨o2, by simp only [whileL, a, x, z], w⟩
      | _ => exact y.elim
theorem Run_forBrk {α : Type} {it : I} {tg : Tg} {body : S} {env env1 : Env} {P : Out → Prop} (l : List α) (c : α → D) (Q : Nat → Env → Prop) (hit : it env = some (l.map c, env1)) (h0 : Q 0 env1)
    (hs : ∀ k (hk : k < l.length) e, Q k e → ∃ e1, tg.put (c l[k]) e = some e1 ∧ Run body e1 (fun o => (∃ e2, o = .nxt e2 ∧ Q (k + 1) e2) ∨ ∃ e2, o = .brk e2 ∧ P (.nxt e2)))
    (hP : ∀ e, Q l.length e → P (.nxt e)) : Run (sFor it tg body) env P := by
  have key : ∀ (l : List α) (Q : Nat → Env → Prop) (env : Env), Q 0 env → (∀ k (hk : k < l.length) e, Q k e → ∃ e1, tg.put (c l[k]) e = some e1 ∧ Run body e1 (fun o => (∃ e2, o = .nxt e2 ∧ Q (k + 1) e2) ∨ ∃ e2, o = .brk e2 ∧ P (.nxt e2))) →
      (∀ e, Q l.length e → P (.nxt e)) → ∃ o, forL tg body (l.map c) env = some o ∧ P o := by
    intro l
    induction l with
    | nil => intro Q env h0 _ hP; exact ⟨.nxt env, by simp [forL], hP env h0⟩
    | cons x l ih =>
      intro Q env h0 hs hP
      obtain ⟨e1, a, o, b, d⟩ := hs 0 (by simp) env h0
      simp only [List.getElem_cons_zero] at a
      rcases d with ⟨e2, rfl, d⟩ | ⟨e2, rfl, d⟩
      · obtain ⟨o, y, z⟩ := ih (fun k => Q (k + 1)) e2 d (fun k hk e he => hs (k + 1) (by simp; omega) e he) hP
        exact ⟨o, by rw [List.map_cons, forL, a]; simp only [b]; exact y, z⟩
      · exact ⟨.nxt e2, by rw [List.map_cons, forL, a]; simp only [b], d⟩
  obtain ⟨o, y, z⟩ := key l Q env1 h0 hs hP
  exact ⟨o, by simp only [sFor, hit, y], z⟩
section
variable (s0 : Slot) (q0 : Env)
end
@[simp] theorem dIadd_int (a b : Int) : dIadd (.int a) (.int b) = some (.fz (.int (a + b))) := rfl
theorem sub_len : ∀ {l m : List Nat}, l.Nodup → (∀ x ∈ l, x ∈ m) → l.length ≤ m.length
  | [], m, _, _ => by simp
  | x :: l, m, hn, hs => by
    rw [List.nodup_cons] at hn
    have hx : x ∈ m := hs x (by simp)
    have := sub_len (l := l) (m := m.erase x) hn.2 fun y hy => by
      have hne : y ≠ x := fun e => hn.1 (e ▸ hy)
      exact (List.mem_erase_of_ne hne).2 (hs y (by simp [hy]))
    rw [List.length_erase_of_mem hx] at this
    have : 1 ≤ m.length := List.length_pos_of_mem hx
    simp; omega
end PV
namespace PV
@[simp] theorem nat_scal (i : Nat) : (nat i).scal = true := rfl
end PV
end

section
set_option autoImplicit false
namespace PV
def isExit : Out → Prop
  | .ret _ _ => True
  | .exc _ _ _ => True
  | _ => False
@[simp] theorem isExit_ret (r : RV) (e : Env) : isExit (.ret r e) = True := rfl
@[simp] theorem isExit_exc (c : Nat) (ds : List D) (e : Env) : isExit (.exc c ds e) = True := rfl
/-- a loop that is left at the first that is bad -/
theorem Run_forFind {α : Type} {it : I} {tg : Tg} {body : S} {env env1 : Env} {P : Out → Prop} (l : List α) (c : α → D) (bad : Nat → Bool) (Q : Env → Prop) (hit : it env = some (l.map c, env1)) (h0 : Q env1)
    (hs : ∀ k (hk : k < l.length), (∀ j, j < k → bad j = false) → ∀ e, Q e → ∃ e1, tg.put (c l[k]) e = some e1 ∧ Run body e1 (fun o => if bad k = true then isExit o ∧ P o else ∃ e2, (o = .nxt e2 ∨ o = .cnt e2) ∧ Q e2))
    (hN : (∀ k, k < l.length → bad k = false) → ∀ e, Q e → P (.nxt e)) : Run (sFor it tg body) env P := by
  have key : ∀ (l : List α) (bad : Nat → Bool) (env : Env), Q env → (∀ k (hk : k < l.length), (∀ j, j < k → bad j = false) → ∀ e, Q e → ∃ e1, tg.put (c l[k]) e = some e1 ∧ Run body e1 (fun o => if bad k = true then isExit o ∧ P o else ∃ e2, (o = .nxt e2 ∨ o = .cnt e2) ∧ Q e2)) →
      ((∀ k, k < l.length → bad k = false) → ∀ e, Q e → P (.nxt e)) → ∃ o, forL tg body (l.map c) env = some o ∧ P o := by
    intro l
    induction l with
    | nil => intro bad env h0 _ hN; exact ⟨.nxt env, by simp [forL], hN (by simp) env h0⟩
    | cons x l ih =>
      intro bad env h0 hs hN
      obtain ⟨e1, a, o, b, d⟩ := hs 0 (by simp) (fun j hj => by omega) env h0
      simp only [List.getElem_cons_zero] at a
      cases hb : bad 0 with
      | true =>
        rw [if_pos hb] at d
        refine ⟨o, ?_, d.2⟩
        rw [List.map_cons, forL, a]
        cases o with
        | ret r e => simp only [b]
        | exc c ds e => simp only [b]
        | _ => exact d.1.elim
      | false =>
        rw [if_neg (by simp [hb])] at d
        obtain ⟨e2, d, hq⟩ := d
        obtain ⟨o2, y, z⟩ := ih (fun k => bad (k + 1)) e2 hq (fun k hk hj e he => hs (k + 1) (by simp; omega) (fun j hjk => by
          cases j with
          | zero => exact hb
          | succ j => exact hj j (by omega)) e he) (fun h e he => hN (fun k hk => by
          cases k with
          | zero => exact hb
          | succ k => exact h k (by simp at hk; omega)) e he)
        refine ⟨o2, ?_, z⟩
        rw [List.map_cons, forL, a]
        rcases d with rfl | rfl <;> simp only [b] <;> exact y
  obtain ⟨o, y, z⟩ := key l bad env1 h0 hs hN
  exact ⟨o, by simp only [sFor, hit, y], z⟩
theorem cut_take {α : Type} (xs : List α) (k : Nat) : cut xs none (some (k : Int)) = xs.take k := by
  have h : ¬ (k : Int) < 0 := by omega
  simp only [cut, cutIx, h, if_false, Int.toNat_natCast, List.drop_zero, Nat.sub_zero]
  rcases Nat.le_total k xs.length with h | h
  · rw [Nat.min_eq_left h]
  · rw [Nat.min_eq_right h, List.take_length, List.take_of_length_le h]
section
variable (s0 : Slot) (q0 : Env)
@[simp] theorem eDicC_s (tab : Tab) : eDicC tab (s0 :: q0) = some (.own (.dic (tab.map fun kv => D.str kv.1) (tab.map fun kv => D.str kv.2)), (s0 :: q0)) := rfl
end
@[simp] theorem dCut_str (xs : List Nat) (lo hi : Option Int) : dCut (.str xs) lo hi = some (.fz (.str (cut xs lo hi))) := rfl
@[simp] theorem mCountS_one (a : List Nat) (c : Nat) : mCountS (.str a) [.str [c]] = some (.fz (nat (a.count c))) := rfl
theorem dAdd_txt {a b : List Nat} (h : a.length + b.length ≤ 100000) : dAdd (.str a) (.str b) = some (.fz (.str (a ++ b))) := by
  simp only [dAdd]; rw [if_pos (by simp only [big]; omega)]
theorem getAt_map {α : Type} (f : α → D) {l : List α} {i : Nat} (h : i < l.length) : getAt (l.map f) (i : Int) = some (f l[i]) := by
  simp [h]
theorem dIdx_map {α : Type} (f : α → D) {l : List α} {i : Nat} (h : i < l.length) : dIdx (.lst (l.map f)) (nat i) = some (.fz (f l[i])) := by
  show (match getAt (l.map f) ((i : Nat) : Int) with | some d => some (RV.fz d) | none => none) = _
  rw [getAt_map f h]
theorem dIdx_txt {l : List Nat} {i : Nat} (h : i < l.length) : dIdx (.str l) (nat i) = some (.fz (.str [l[i]])) := by
  show (match getAt l ((i : Nat) : Int) with | some d => some (RV.fz (.str [d])) | none => none) = _
  simp [h]
theorem dAllV {α : Type} (l : List α) (g : α → Bool) : dAll [.lst (l.map fun x => D.bl (g x))] = some (.fz (.bl (l.all g))) := by
  have : (l.map fun x => D.bl (g x)) = (l.map g).map D.bl := by simp [Function.comp_def]
  rw [this]; simp only [dAll, asBls_map]; simp [Function.comp_def]
section
variable (s0 : Slot) (q0 : Env)
@[simp] theorem iEnumV_s (e : E) : iEnumV e (s0 :: q0) = (match e (s0 :: q0) with
  | none => none
  | some (r, env1) => match r.freeze env1 with
    | some (.lst ds, env2) => some (enumL 0 ds, env2)
    | some (.str s, env2) => some (enumL 0 (s.map fun c => D.str [c]), env2)
    | _ => none) := Eq.trans rfl rfl
end
theorem enumL_txt (l : List Nat) : enumL 0 (l.map fun c => D.str [c]) = (List.range l.length).map fun i => D.tup [nat i, .str [l.getD i 0]] := by
  apply List.ext_getElem?
  intro i
  have key : ∀ (ds : List D) (k i : Nat), (enumL k ds)[i]? = ds[i]?.map fun d => D.tup [.int ((k + i : Nat) : Int), d] := by
    intro ds
    induction ds with
    | nil => intro k i; simp [enumL]
    | cons d ds ih =>
      intro k i
      cases i with
      | zero => simp [enumL]
      | succ i =>
        simp only [enumL, List.getElem?_cons_succ]
        rw [ih (k + 1) i, show k + 1 + i = k + (i + 1) by omega]
  rw [key]
  by_cases h : i < l.length
  · simp [h, nat]
  · simp [h]
/-- a comprehension over pairs -/
theorem eLc_nr2 {α : Type} (p : α → Bool) (f : α → D) (r : α → RV) (hr : ∀ x e, (r x).freeze e = some (f x, e)) (c1 c2 : α → D) (l : List α) {it : I} {t : T} {elt : E} {v w : Nat} {env env1 : Env}
    (hit : it env = some (l.map fun x => .tup [c1 x, c2 x], env1)) (hvw : v ≠ w)
    (hv : env1[v]? = some .un ∨ ∃ d, env1[v]? = some (.fz d)) (hw : env1[w]? = some .un ∨ ∃ d, env1[w]? = some (.fz d))
    (ht : ∀ x ∈ l, t ((env1.set v (.fz (c1 x))).set w (.fz (c2 x))) = some (p x, (env1.set v (.fz (c1 x))).set w (.fz (c2 x))))
    (he : ∀ x ∈ l, p x = true → elt ((env1.set v (.fz (c1 x))).set w (.fz (c2 x))) = some (r x, (env1.set v (.fz (c1 x))).set w (.fz (c2 x)))) :
    eLc it (.tp [.nm v, .nm w]) t elt [v, w] env = some (.own (.lst ((l.filter p).map f)), env1) := by
  have hlv : v < env1.length := by
    rcases hv with h | ⟨d, h⟩ <;> exact (List.getElem?_eq_some_iff.1 h).1
  have hlw : w < env1.length := by
    rcases hw with h | ⟨d, h⟩ <;> exact (List.getElem?_eq_some_iff.1 h).1
  have hwi : wipeable [v, w] env1 = true := by rcases hv with h | ⟨d, h⟩ <;> rcases hw with h2 | ⟨d2, h2⟩ <;> simp [wipeable, h, h2]
  have key : ∀ (l : List α) (acc : List D) (e : Env), (∀ x ∈ l, t ((env1.set v (.fz (c1 x))).set w (.fz (c2 x))) = some (p x, (env1.set v (.fz (c1 x))).set w (.fz (c2 x)))) →
      (∀ x ∈ l, p x = true → elt ((env1.set v (.fz (c1 x))).set w (.fz (c2 x))) = some (r x, (env1.set v (.fz (c1 x))).set w (.fz (c2 x)))) → (∃ s s2, e = (env1.set v s).set w s2) →
      ∃ e', lcL (.tp [.nm v, .nm w]) t elt [v, w] (l.map fun x => .tup [c1 x, c2 x]) acc e = some (acc ++ (l.filter p).map f, e') ∧ ∃ s s2, e' = (env1.set v s).set w s2 := by
    intro l
    induction l with
    | nil => intro acc e _ _ he; exact ⟨e, by simp [lcL], he⟩
    | cons x l ih =>
      intro acc e ht he hs
      obtain ⟨s, s2, rfl⟩ := hs
      have hput : Tg.put (.tp [.nm v, .nm w]) (.tup [c1 x, c2 x]) (wipeE [v, w] ((env1.set v s).set w s2)) = some ((env1.set v (.fz (c1 x))).set w (.fz (c2 x))) := by
        have e1 : wipeE [v, w] ((env1.set v s).set w s2) = (env1.set v .un).set w .un := by
          simp only [wipeE, List.foldr_cons, List.foldr_nil]
          rw [List.set_set, List.set_comm _ _ (Ne.symm hvw), List.set_set]
        rw [e1]
        have a1 : ((env1.set v .un).set w .un)[v]? = some .un := by
          rw [List.getElem?_set_ne (Ne.symm hvw)]; simp [hlv]
        have a2 : (((env1.set v .un).set w .un).set v (.fz (c1 x)))[w]? = some .un := by
          rw [List.getElem?_set_ne hvw]; simp [hlw]
        simp only [Tg.put, putL, putSlot, a1, a2]
        rw [List.set_comm _ _ (Ne.symm hvw), List.set_set, List.set_set]
      by_cases h : p x = true
      · obtain ⟨e', a, b⟩ := ih (acc ++ [f x]) ((env1.set v (.fz (c1 x))).set w (.fz (c2 x))) (fun y hy => ht y (by simp [hy])) (fun y hy => he y (by simp [hy])) ⟨_, _, rfl⟩
        refine ⟨e', ?_, b⟩
        rw [List.map_cons, lcL, hput]
        simp only [ht x (by simp), h, he x (by simp) h, hr]
        rw [a]; simp [h]
      · obtain ⟨e', a, b⟩ := ih acc ((env1.set v (.fz (c1 x))).set w (.fz (c2 x))) (fun y hy => ht y (by simp [hy])) (fun y hy => he y (by simp [hy])) ⟨_, _, rfl⟩
        refine ⟨e', ?_, b⟩
        rw [List.map_cons, lcL, hput]
        simp only [ht x (by simp), h]
        rw [a]; simp [h]
  obtain ⟨e', a, s, s2, rfl⟩ := key l [] env1 ht he ⟨env1[v], env1[w], by
    rw [List.set_getElem_self, List.set_getElem_self]⟩
  simp only [eLc, hit, hwi, if_true, a]
  have : backE [v, w] env1 ((env1.set v s).set w s2) = env1 := by
    simp only [backE, List.foldr_cons, List.foldr_nil]
    rw [List.set_set, List.set_comm _ _ (Ne.symm hvw), List.set_set]
    have g1 : env1.getD v .un = env1[v] := by simp [List.getD, hlv]
    have g2 : env1.getD w .un = env1[w] := by simp [List.getD, hlw]
    rw [g1, g2]
    simp
  rw [this, List.nil_append]
end PV
end

section
set_option autoImplicit false
namespace PV
/-! ### papers: plain values -/
theorem shal_succ : ∀ (n : Nat) (d : D), d.shal n = true → d.shal (n + 1) = true := by
  intro n
  induction n with
  | zero => intro d h; cases d <;> first | rfl | (cases h)
  | succ n ih =>
    intro d h
    have all : ∀ xs : List D, shalL n xs = true → shalL (n + 1) xs = true := fun xs h => by
      rw [shalL_all, List.all_eq_true] at h ⊢
      exact fun x hx => ih x (h x hx)
    cases d with
    | lst xs => exact all xs h
    | tup xs => exact all xs h
    | dic _ _ => cases h
    | scr _ => cases h
    | _ => rfl
def Pl (d : D) : Prop := ∃ n, n ≤ 40 ∧ d.shal n = true
theorem Pl.forty {d : D} (h : Pl d) : d.shal 40 = true := by
  obtain ⟨n, hn, h⟩ := h
  have : ∀ k, d.shal (n + k) = true := fun k => by
    induction k with
    | zero => exact h
    | succ k ih => exact shal_succ _ _ ih
  have := this (40 - n)
  rwa [show n + (40 - n) = 40 by omega] at this
theorem Pl.lst {xs : List D} (h : Pl (.lst xs)) : ∀ x ∈ xs, Pl x := by
  obtain ⟨n, hn, h⟩ := h
  cases n with
  | zero => cases h
  | succ n =>
    rw [shal_lst, shalL_all, List.all_eq_true] at h
    exact fun x hx => ⟨n, by omega, h x hx⟩
theorem Pl.tup {xs : List D} (h : Pl (.tup xs)) : ∀ x ∈ xs, Pl x := by
  obtain ⟨n, hn, h⟩ := h
  cases n with
  | zero => cases h
  | succ n =>
    rw [shal_tup, shalL_all, List.all_eq_true] at h
    exact fun x hx => ⟨n, by omega, h x hx⟩
theorem Pl.shalL {xs : List D} (h : Pl (.lst xs)) : shalL 39 xs = true := by
  have := h.forty; exact this
@[simp] theorem Pl_int (i : Int) : Pl (.int i) := ⟨0, by omega, rfl⟩
@[simp] theorem Pl_nat (i : Nat) : Pl (nat i) := ⟨0, by omega, rfl⟩
@[simp] theorem Pl_bl (i : Bool) : Pl (.bl i) := ⟨0, by omega, rfl⟩
@[simp] theorem Pl_str (i : List Nat) : Pl (.str i) := ⟨0, by omega, rfl⟩
@[simp] theorem Pl_non : Pl .non := ⟨0, by omega, rfl⟩
theorem Pl.of {d : D} {n : Nat} (h : d.shal n = true) (hn : n ≤ 40 := by omega) : Pl d := ⟨n, hn, h⟩
def isW : D → Bool
  | .int _ => true
  | _ => false
@[simp] theorem isW_int (i : Int) : isW (.int i) = true := rfl
@[simp] theorem isW_nat (i : Nat) : isW (nat i) = true := rfl
@[simp] theorem isW_bl (i : Bool) : isW (.bl i) = false := rfl
@[simp] theorem isW_str (i : List Nat) : isW (.str i) = false := rfl
@[simp] theorem isW_non : isW .non = false := rfl
@[simp] theorem isW_lst (xs : List D) : isW (.lst xs) = false := rfl
@[simp] theorem isW_tup (xs : List D) : isW (.tup xs) = false := rfl
theorem isW_ex {d : D} (h : isW d = true) : ∃ i, d = .int i := by
  cases d with
  | int i => exact ⟨i, rfl⟩
  | _ => cases h
/-- isinstance -/
def tyIs : Ty → D → Bool
  | .int, .int _ => true
  | .int, .bl _ => true
  | .bool, .bl _ => true
  | .str, .str _ => true
  | .list, .lst _ => true
  | .tuple, .tup _ => true
  | _, _ => false
theorem dIsi_pl {d : D} (h : Pl d) (t : Ty) : dIsi t d = some (.fz (.bl (tyIs t d))) := by
  obtain ⟨n, _, h⟩ := h
  cases d with
  | dic _ _ => cases n <;> cases h
  | scr _ => cases n <;> cases h
  | _ => cases t <;> rfl
@[simp] theorem tyIs_list_lst (xs : List D) : tyIs .list (.lst xs) = true := rfl
theorem isW_ty (d : D) : (tyIs .int d && !tyIs .bool d) = isW d := by cases d <;> rfl
/-- the whole numbers of a list -/
def wholes : D → Option (List Int)
  | .lst xs => asInts xs
  | _ => none
@[simp] theorem wholes_lst (xs : List D) : wholes (.lst xs) = asInts xs := rfl
theorem asInts_all : ∀ xs : List D, (asInts xs).isSome = xs.all isW
  | [] => rfl
  | x :: xs => by
    have ih := asInts_all xs
    cases x with
    | int i => simp only [asInts, List.all_cons, isW_int, Bool.true_and, ← ih]; cases asInts xs <;> rfl
    | _ => rfl
theorem asInts_eq : ∀ {xs : List D} {is : List Int}, asInts xs = some is → xs = is.map D.int
  | [], is, h => by cases h; rfl
  | x :: xs, is, h => by
    cases x with
    | int i =>
      simp only [asInts] at h
      cases e : asInts xs with
      | none => rw [e] at h; cases h
      | some js => rw [e] at h; cases h; rw [asInts_eq e]; rfl
    | _ => cases h
theorem wholes_eq {d : D} {is : List Int} (h : wholes d = some is) : d = .lst (is.map D.int) := by
  cases d with
  | lst xs => rw [asInts_eq h]
  | _ => cases h
theorem wholes_none {xs : List D} (h : wholes (.lst xs) = none) : xs.all isW = false := by
  have := asInts_all xs
  rw [wholes_lst] at h
  rw [h] at this; exact this.symm
theorem all_wholes {xs : List D} (h : xs.all isW = true) : ∃ is : List Int, xs = is.map D.int := by
  have := asInts_all xs
  rw [h] at this
  obtain ⟨is, e⟩ := Option.isSome_iff_exists.1 this
  exact ⟨is, asInts_eq e⟩
@[simp] theorem all_isW (is : List Int) : (is.map D.int).all isW = true := by simp
@[simp] theorem all_isWn (is : List Nat) : (is.map nat).all isW = true := by simp
theorem minI_le : ∀ {l : List Int}, ∀ x ∈ l, minI l ≤ x
  | [], x, h => by simp at h
  | [a], x, h => by simp [minI] at h ⊢; omega
  | a :: b :: r, x, h => by
    rw [minI]
    rcases List.mem_cons.1 h with rfl | h
    · omega
    · have := minI_le (l := b :: r) x h; omega
theorem minI_mem : ∀ {l : List Int}, l ≠ [] → minI l ∈ l
  | [], h => (h rfl).elim
  | [a], _ => by simp [minI]
  | a :: b :: r, _ => by
    rw [minI]
    have := minI_mem (l := b :: r) (by simp)
    rcases Int.le_total a (minI (b :: r)) with h | h
    · rw [Int.min_eq_left h]; simp
    · rw [Int.min_eq_right h]; exact List.mem_cons_of_mem _ this
theorem maxI_le : ∀ {l : List Int}, ∀ x ∈ l, x ≤ maxI l
  | [], x, h => by simp at h
  | [a], x, h => by simp [maxI] at h ⊢; omega
  | a :: b :: r, x, h => by
    rw [maxI]
    rcases List.mem_cons.1 h with rfl | h
    · omega
    · have := maxI_le (l := b :: r) x h; omega
theorem maxI_mem : ∀ {l : List Int}, l ≠ [] → maxI l ∈ l
  | [], h => (h rfl).elim
  | [a], _ => by simp [maxI]
  | a :: b :: r, _ => by
    rw [maxI]
    have := maxI_mem (l := b :: r) (by simp)
    rcases Int.le_total a (maxI (b :: r)) with h | h
    · rw [Int.max_eq_right h]; exact List.mem_cons_of_mem _ this
    · rw [Int.max_eq_left h]; simp
theorem dMin_ints {l : List Int} (h : l ≠ []) : dMin [.lst (l.map D.int)] = some (.fz (.int (minI l))) := by
  cases l with
  | nil => exact (h rfl).elim
  | cons a r =>
    have e := asInts_map (a :: r)
    rw [List.map_cons] at e ⊢
    simp only [dMin, e]
theorem dMax_ints {l : List Int} (h : l ≠ []) : dMax [.lst (l.map D.int)] = some (.fz (.int (maxI l))) := by
  cases l with
  | nil => exact (h rfl).elim
  | cons a r =>
    have e := asInts_map (a :: r)
    rw [List.map_cons] at e ⊢
    simp only [dMax, e]
theorem sortI_uniq {l m : List Int} (h : l.Perm m) : sortI l = sortI m :=
  List.Perm.eq_of_pairwise (fun a b _ _ h1 h2 => Int.le_antisymm h1 h2) (sortI_sorted l) (sortI_sorted m) (((sortI_perm l).trans h).trans (sortI_perm m).symm)
theorem sortI_of {l : List Int} (h : l.Pairwise (· ≤ ·)) : sortI l = l :=
  List.Perm.eq_of_pairwise (fun a b _ _ h1 h2 => Int.le_antisymm h1 h2) (sortI_sorted l) h (sortI_perm l)
theorem dSortedV_ints {l : List Int} (h : l.length < 64) : dSortedV [.lst (l.map D.int)] = some (.own (.lst ((sortI l).map D.int))) := by
  simp [dSortedV, h]
def rangeI (n : Nat) : List Int := (List.range n).map fun i => ((i : Nat) : Int)
theorem dListRange_nat {n : Nat} (h : n ≤ 100000) : dListRange [.int (n : Nat)] = some (.own (.lst ((rangeI n).map D.int))) := by
  have h2 : (0 : Int) ≤ (n : Int) ∧ ((n : Nat) : Int).natAbs ≤ big := ⟨by omega, by simp only [big]; omega⟩
  simp only [dListRange]
  rw [if_pos h2, rangeL_nat]; rfl
theorem dEq_pl {a b : D} (h : Pl a) (h2 : Pl b) : dEq a b = some (.fz (.bl (a.eqv b))) := by
  simp [dEq, h.forty, h2.forty]
theorem dNe_pl {a b : D} (h : Pl a) (h2 : Pl b) : dNe a b = some (.fz (.bl (!a.eqv b))) := by
  simp [dNe, h.forty, h2.forty]
@[simp] theorem dAll_bls (l : List Bool) : dAll [.lst (l.map D.bl)] = some (.fz (.bl (l.all id))) := by simp [dAll]
@[simp] theorem dSum_ints (l : List Int) : dSum [.lst (l.map D.int)] = some (.fz (.int l.sum)) := by simp [dSum]
theorem rng0 (b : Nat) (h : b ≤ 1000) (env : Env) : rng (b : Int) env = some ((List.range b).map nat, env) := rngN h env
end PV
namespace PV
theorem eraseIdx_mapG {α : Type} (f : α → D) (xs : List α) (v : Nat) : (xs.map f).eraseIdx v = (xs.eraseIdx v).map f := by
  induction xs generalizing v with
  | nil => simp
  | cons x xs ih => cases v <;> simp [ih]
theorem eraseIdx_perm {α : Type} : ∀ {l : List α} {v : Nat} (h : v < l.length), (l[v] :: l.eraseIdx v).Perm l
  | [], v, h => by simp at h
  | x :: l, 0, _ => by simp
  | x :: l, v + 1, h => by
    simp only [List.getElem_cons_succ, List.eraseIdx_cons_succ]
    exact (List.Perm.swap _ _ _).trans ((eraseIdx_perm (by simpa using h)).cons x)
theorem mPopAt_nats {xs : List Nat} {v : Nat} (h : v < xs.length) (h2 : v < 4294967296) : mPopAt (.lst (xs.map nat)) [.int v] = some (.lst ((xs.eraseIdx v).map nat), .fz (nat xs[v])) := by
  have h3 : (v : Int).natAbs < 2 ^ 62 := by omega
  simp only [mPopAt]; rw [if_pos h3]
  simp [ixOf, h, eraseIdx_mapG]
end PV
end

section
set_option autoImplicit false
namespace PV
/-! ### tables -/
theorem getAt_txs {rows : List (List Nat)} {i : Nat} (h : i < rows.length) : getAt (rows.map D.str) (i : Int) = some (.str (rows.getD i [])) := by
  simp [h]
theorem getAt_sg {row : List Nat} {i : Nat} (h : i < row.length) : getAt row (i : Int) = some (row.getD i 0) := by
  simp [h]
theorem dIdx_txs {rows : List (List Nat)} {i : Nat} (h : i < rows.length) : dIdx (txs rows) (.int (i : Nat)) = some (.fz (.str (rows.getD i []))) := by
  show (match getAt (rows.map D.str) ((i : Nat) : Int) with | some d => some (RV.fz d) | none => none) = _
  rw [getAt_txs h]
theorem dIdx_sg {l : List Nat} {i : Nat} (h : i < l.length) : dIdx (.str l) (.int (i : Nat)) = some (.fz (.str [l.getD i 0])) := by
  show (match getAt l ((i : Nat) : Int) with | some d => some (RV.fz (.str [d])) | none => none) = _
  rw [getAt_sg h]
theorem dIdx_nats {l : List Nat} {i : Nat} (h : i < l.length) : dIdx (.lst (l.map nat)) (.int (i : Nat)) = some (.fz (nat (l.getD i 0))) := by
  show (match getAt (l.map nat) ((i : Nat) : Int) with | some d => some (RV.fz d) | none => none) = _
  simp [h]
@[simp] theorem dLen_txs (rows : List (List Nat)) : dLen [txs rows] = some (.fz (.int rows.length)) := by simp [txs]
@[simp] theorem dList_txs (l : List (List Nat)) : dList [txs l] = some (.own (txs l)) := rfl
@[simp] theorem flat_txs (l : List (List Nat)) : RV.flat (.own (txs l)) = true := by simp [txs]
@[simp] theorem dEq_txs (l m : List (List Nat)) : dEq (txs l) (txs m) = some (.fz (.bl (decide (l = m)))) := dEq_strs l m
@[simp] theorem dNe_txs (l m : List (List Nat)) : dNe (txs l) (txs m) = some (.fz (.bl (!decide (l = m)))) := dNe_strs l m
@[simp] theorem fr_txs (l : List (List Nat)) (e : Env) : RV.freeze e (.own (txs l)) = some (txs l, e) := rfl
def cel (rows : List (List Nat)) (i j : Nat) : Nat := (rows.getD i []).getD j 0
def rowsC (c : Nat → Nat → Nat) (n : Nat) : List (List Nat) := (List.range n).map fun r => (List.range n).map (c r)
theorem cel_rowsC {c : Nat → Nat → Nat} {n i j : Nat} (hi : i < n) (hj : j < n) : cel (rowsC c n) i j = c i j := by
  simp [cel, rowsC, hi, hj]
/-- n rows of n signs -/
structure Sq (rows : List (List Nat)) (n : Nat) : Prop where
  len : rows.length = n
  row : ∀ i, i < n → (rows.getD i []).length = n
/-- a table of n players -/
structure IsTab (rows : List (List Nat)) (n : Nat) : Prop extends Sq rows n where
  dia : ∀ i, i < n → cel rows i i = 45
  game : ∀ i j, i < n → j < n → i ≠ j → (cel rows i j = 119 ∧ cel rows j i = 108) ∨ (cel rows i j = 108 ∧ cel rows j i = 119)
theorem Sq_rowsC (c : Nat → Nat → Nat) (n : Nat) : Sq (rowsC c n) n := ⟨by simp [rowsC], fun i hi => by simp [rowsC, hi]⟩
theorem Sq.idx {rows : List (List Nat)} {n i : Nat} (h : Sq rows n) (hi : i < n) : dIdx (txs rows) (.int (i : Nat)) = some (.fz (.str (rows.getD i []))) := dIdx_txs (by rw [h.len]; exact hi)
theorem Sq.idx2 {rows : List (List Nat)} {n i j : Nat} (h : Sq rows n) (hi : i < n) (hj : j < n) : dIdx (.str (rows.getD i [])) (.int (j : Nat)) = some (.fz (.str [cel rows i j])) := dIdx_sg (by rw [h.row i hi]; exact hj)
theorem Sq.dlen {rows : List (List Nat)} {n : Nat} (h : Sq rows n) : dLen [txs rows] = some (.fz (.int (n : Nat))) := by rw [dLen_txs, h.len]
theorem Sq.ext {rows rows' : List (List Nat)} {n : Nat} (h : Sq rows n) (h' : Sq rows' n) (e : ∀ i j, i < n → j < n → cel rows i j = cel rows' i j) : rows = rows' := by
  apply List.ext_getElem?
  intro i
  by_cases hi : i < n
  · have a1 := h.row i hi
    have a2 := h'.row i hi
    have b1 : rows[i]? = some (rows.getD i []) := by simp [h.len, hi]
    have b2 : rows'[i]? = some (rows'.getD i []) := by simp [h'.len, hi]
    rw [b1, b2]
    congr 1
    apply List.ext_getElem?
    intro j
    by_cases hj : j < n
    · have c1 : (rows.getD i [])[j]? = some (cel rows i j) := by unfold cel; rw [List.getD_eq_getElem?_getD (l := rows.getD i []), List.getElem?_eq_getElem (by omega)]; rfl
      have c2 : (rows'.getD i [])[j]? = some (cel rows' i j) := by unfold cel; rw [List.getD_eq_getElem?_getD (l := rows'.getD i []), List.getElem?_eq_getElem (by omega)]; rfl
      rw [c1, c2, e i j hi hj]
    · rw [List.getElem?_eq_none (by omega), List.getElem?_eq_none (by omega)]
  · rw [List.getElem?_eq_none (by rw [h.len]; omega), List.getElem?_eq_none (by rw [h'.len]; omega)]
theorem Sq.eq_rowsC {rows : List (List Nat)} {n : Nat} (h : Sq rows n) : rows = rowsC (cel rows) n :=
  h.ext (Sq_rowsC _ n) fun i j hi hj => (cel_rowsC hi hj).symm
/-- i beat j -/
def bt (rows : List (List Nat)) (i j : Nat) : Bool := decide (cel rows i j = 119)
theorem IsTab.bt_self {rows : List (List Nat)} {n i : Nat} (h : IsTab rows n) (hi : i < n) : bt rows i i = false := by
  simp [bt, h.dia i hi]
theorem IsTab.bt_not {rows : List (List Nat)} {n i j : Nat} (h : IsTab rows n) (hi : i < n) (hj : j < n) (hij : i ≠ j) : bt rows j i = !bt rows i j := by
  rcases h.game i j hi hj hij with ⟨a, b⟩ | ⟨a, b⟩ <;> simp [bt, a, b]
theorem IsTab.lost {rows : List (List Nat)} {n i j : Nat} (h : IsTab rows n) (hi : i < n) (hj : j < n) (hij : i ≠ j) : decide (cel rows i j = 108) = !bt rows i j := by
  rcases h.game i j hi hj hij with ⟨a, b⟩ | ⟨a, b⟩ <;> simp [bt, a]
theorem IsTab.cel_eq {rows : List (List Nat)} {n i j : Nat} (h : IsTab rows n) (hi : i < n) (hj : j < n) (hij : i ≠ j) : cel rows i j = if bt rows i j = true then 119 else 108 := by
  rcases h.game i j hi hj hij with ⟨a, b⟩ | ⟨a, b⟩ <;> simp [bt, a]
/-- the signs of drawn games -/
def sg (u : Nat → Nat → Bool) (r c : Nat) : Nat := if c = r then 45 else if c < r then (if u c r then 108 else 119) else (if u r c then 119 else 108)
theorem IsTab_sg (u : Nat → Nat → Bool) (n : Nat) : IsTab (rowsC (sg u) n) n := by
  refine ⟨Sq_rowsC _ n, fun i hi => by rw [cel_rowsC hi hi]; simp [sg], fun i j hi hj hij => ?_⟩
  rw [cel_rowsC hi hj, cel_rowsC hj hi]
  unfold sg
  rcases Nat.lt_or_gt_of_ne hij with h | h
  · have a1 : ¬ j = i := by omega
    have a2 : ¬ j < i := by omega
    have a3 : ¬ i = j := by omega
    cases u i j <;> simp [a1, a2, a3, h]
  · have a1 : ¬ j = i := by omega
    have a2 : ¬ i < j := by omega
    have a3 : ¬ i = j := by omega
    cases u j i <;> simp [a1, a2, a3, h]
theorem Pl_txs (l : List (List Nat)) : Pl (txs l) := .of (n := 1) (by rw [txs, shal_lst]; exact shalL_strs 0 l)
theorem Pl_nats (l : List Nat) : Pl (.lst (l.map nat)) := .of (n := 1) (by rw [shal_lst]; exact shalL_nats 0 l)
theorem Pl_ints (l : List Int) : Pl (.lst (l.map D.int)) := .of (n := 1) (by rw [shal_lst]; exact shalL_ints 0 l)
theorem dAdd_str {a b : List Nat} (h : a.length + b.length ≤ 10000) : dAdd (.str a) (.str b) = some (.fz (.str (a ++ b))) := by
  simp only [dAdd]; rw [if_pos (by simp only [big]; omega)]
theorem pick_lw (b : Bool) : getAt [D.str [108], D.str [119]] (if b = true then 1 else 0) = some (.str [if b then 119 else 108]) := by cases b <;> simp
theorem pick_lw' (p : Prop) [Decidable p] : getAt [D.str [108], D.str [119]] (if p then 1 else 0) = some (.str [if p then 119 else 108]) := by by_cases h : p <;> simp [h]
theorem getAt_ints {l : List Int} {i : Nat} (h : i < l.length) : getAt (l.map D.int) (i : Int) = some (.int l[i]) := by
  simp [h]
theorem nats_ints (l : List Nat) : l.map nat = (l.map fun k => ((k : Nat) : Int)).map D.int := by simp [nat, Function.comp_def]
end PV
namespace PV
/-! ### lists told place by place -/
def vecL (n : Nat) (f : Nat → Int) : List Int := (List.range n).map f
def vec (n : Nat) (f : Nat → Int) : D := .lst ((vecL n f).map D.int)
@[simp] theorem vecL_len (n : Nat) (f : Nat → Int) : (vecL n f).length = n := by simp [vecL]
theorem vec_congr {n : Nat} {f g : Nat → Int} (h : ∀ k, k < n → f k = g k) : vec n f = vec n g := by
  unfold vec vecL; rw [List.map_congr_left fun k hk => h k (List.mem_range.1 hk)]
theorem vecL_get {n k : Nat} {f : Nat → Int} (h : k < n) : (vecL n f)[k]? = some (f k) := by simp [vecL, h]
@[simp] theorem dLen_vec (n : Nat) (f : Nat → Int) : dLen [vec n f] = some (.fz (.int n)) := by simp [vec]
theorem dIdx_vec {n k : Nat} {f : Nat → Int} (h : k < n) : dIdx (vec n f) (.int (k : Nat)) = some (.fz (.int (f k))) := by
  simp [vec, vecL, h]
theorem getL_vec {n k : Nat} {f : Nat → Int} (h : k < n) : getL (vec n f) (.int (k : Nat)) = some (.int (f k)) := by
  simp [vec, vecL, h]
theorem setL_vec {n k : Nat} {f : Nat → Int} {v : Int} (h : k < n) : setL (vec n f) (.int (k : Nat)) (.int v) = some (vec n fun j => if j = k then v else f j) := by
  unfold vec vecL
  rw [setL_nat (by omega) (by simpa using h)]
  congr 2
  apply List.ext_getElem?
  intro j
  rw [List.getElem?_set]
  simp only [Int.toNat_natCast, List.length_map, List.length_range]
  by_cases hj : j < n
  · by_cases e : k = j
    · subst e; simp [hj]
    · simp [hj, e, Ne.symm e]
  · by_cases e : k = j
    · omega
    · simp [e, hj]
theorem vec_of {l : List Int} : (.lst (l.map D.int) : D) = vec l.length fun k => l.getD k 0 := by
  unfold vec vecL
  congr 2
  apply List.ext_getElem?
  intro j
  by_cases hj : j < l.length
  · simp [hj]
  · simp [hj]
theorem vecL_of {l : List Int} : l = vecL l.length fun k => l.getD k 0 := by
  unfold vecL
  apply List.ext_getElem?
  intro j
  by_cases hj : j < l.length
  · simp [hj]
  · simp [hj]
@[simp] theorem flat_vec (n : Nat) (f : Nat → Int) : RV.flat (.own (vec n f)) = true := by simp [vec]
@[simp] theorem dList_vec (n : Nat) (f : Nat → Int) : dList [vec n f] = some (.own (vec n f)) := rfl
theorem vec_inj {n : Nat} {f g : Nat → Int} : vecL n f = vecL n g ↔ ∀ k, k < n → f k = g k := by
  constructor
  · intro h k hk
    have := congrArg (fun l => l[k]?) h
    simpa [vecL, hk] using this
  · intro h; unfold vecL; exact List.map_congr_left fun k hk => h k (List.mem_range.1 hk)
@[simp] theorem dEq_vec (n : Nat) (f : Nat → Int) : dEq (vec n f) (vec n f) = some (.fz (.bl true)) := by
  unfold vec; rw [dEq_ints]; simp
@[simp] theorem dNe_vec (n : Nat) (f : Nat → Int) : dNe (vec n f) (vec n f) = some (.fz (.bl false)) := by
  unfold vec; rw [dNe_ints]; simp
theorem Pl_vec (n : Nat) (f : Nat → Int) : Pl (vec n f) := Pl_ints _
theorem sum_succ (f : Nat → Int) (k : Nat) : ((List.range (k + 1)).map f).sum = ((List.range k).map f).sum + f k := by
  rw [List.range_succ]; simp
theorem sum_filter {α : Type} (p : α → Bool) (f : α → Int) : ∀ l : List α, ((l.filter p).map f).sum = (l.map fun x => if p x = true then f x else 0).sum
  | [] => rfl
  | x :: l => by
    have ih := sum_filter p f l
    by_cases h : p x = true <;> simp [h, ih]
theorem sum_perm {l m : List Int} (h : l.Perm m) : l.sum = m.sum := by
  induction h with
  | nil => rfl
  | cons x _ ih => simp [ih]
  | swap x y l => simp; omega
  | trans _ _ h1 h2 => rw [h1, h2]
theorem sum_mul (t : Int) (f : Nat → Int) : ∀ l : List Nat, (l.map fun k => t * f k).sum = t * (l.map f).sum
  | [] => by simp
  | x :: l => by simp [sum_mul t f l, Int.mul_add]
theorem sum_congr {l : List Nat} {f g : Nat → Int} (h : ∀ k ∈ l, f k = g k) : (l.map f).sum = (l.map g).sum := by
  rw [List.map_congr_left h]
theorem sum_nonneg {l : List Int} (h : ∀ x ∈ l, 0 ≤ x) : 0 ≤ l.sum := by
  induction l with
  | nil => simp
  | cons x l ih =>
    have := ih fun y hy => h y (by simp [hy])
    have := h x (by simp)
    simp; omega
end PV
namespace PV
theorem mAppend_txs {l : List (List Nat)} {x : List Nat} (h : l.length ≤ 100000) : mAppend (txs l) [.str x] = some (txs (l ++ [x]), .fz .non) := by
  unfold txs
  rw [mAppend_lst (by simp only [big, List.length_map]; omega)]
  simp
theorem sum_cut {f : Nat → Int} {c : Nat} (h : ∀ k, c ≤ k → f k = 0) : ∀ n, c ≤ n → ((List.range n).map f).sum = ((List.range c).map f).sum := by
  intro n hn
  obtain ⟨k, rfl⟩ : ∃ k, n = c + k := ⟨n - c, by omega⟩
  clear hn
  induction k with
  | zero => rfl
  | succ k ih => rw [← Nat.add_assoc, sum_succ, ih, h _ (by omega)]; omega
theorem map_getD {l : List Nat} {β : Type} (f : Nat → β) : (List.range l.length).map (fun i => f (l.getD i 0)) = l.map f := by
  apply List.ext_getElem
  · simp
  · intro i h1 h2; simp at h1 h2; simp [h2]
theorem getD_inj {l : List Nat} (h : l.Nodup) {i j : Nat} (hi : i < l.length) (hj : j < l.length) : l.getD i 0 = l.getD j 0 ↔ i = j := by
  have e1 : l.getD i 0 = l[i] := by simp [hi]
  have e2 : l.getD j 0 = l[j] := by simp [hj]
  rw [e1, e2]
  have hp := List.pairwise_iff_getElem.1 h
  constructor
  · intro e
    rcases Nat.lt_trichotomy i j with h' | h' | h'
    · exact (hp i j hi hj h' e).elim
    · exact h'
    · exact (hp j i hj hi h' e.symm).elim
  · intro e; subst e; rfl
end PV
namespace PV
@[simp] theorem isL_txs (l : List (List Nat)) : isL (txs l) = true := rfl
@[simp] theorem isL_vec (n : Nat) (f : Nat → Int) : isL (vec n f) = true := rfl
end PV
end

section
set_option autoImplicit false
namespace PV
/-! ### papers that repr shows -/
abbrev Lv (n : Nat) (d : D) : Prop := levR widA n d = true
theorem lv_int {n : Nat} {i : Int} (h : i.natAbs < 10 ^ 60) : Lv n (.int i) := by
  have : leafR (.int i) = true := decide_eq_true h
  cases n <;> exact this
theorem lv_nat {n i : Nat} (h : i < 10 ^ 60) : Lv n (nat i) := lv_int (by simpa using h)
theorem lv_bl {n : Nat} (b : Bool) : Lv n (.bl b) := by cases n <;> rfl
theorem lv_non {n : Nat} : Lv n .non := by cases n <;> rfl
theorem lv_str {n : Nat} {s : List Nat} (h : s.length ≤ 20) (h2 : s.all (· < 0x110000) = true) : Lv n (.str s) := by
  have : leafR (.str s) = true := by simp only [leafR, h2, Bool.and_true, decide_eq_true_eq]; exact h
  cases n <;> exact this
theorem lv_lst {n : Nat} {xs : List D} (h : xs.length ≤ 16) (h2 : ∀ x ∈ xs, Lv n x) : Lv (n + 1) (.lst xs) := by
  have hw : xs.length ≤ widA n := Nat.le_trans h (by unfold widA; split <;> decide)
  show (decide (xs.length ≤ widA n) && xs.all (levR widA n)) = true
  rw [decide_eq_true hw, Bool.true_and, List.all_eq_true]; exact h2
theorem lv_tup {n : Nat} {xs : List D} (h : xs.length ≤ 16) (h2 : ∀ x ∈ xs, Lv n x) : Lv (n + 1) (.tup xs) := by
  have hw : xs.length ≤ widA n := Nat.le_trans h (by unfold widA; split <;> decide)
  show (decide (xs.length ≤ widA n) && xs.all (levR widA n)) = true
  rw [decide_eq_true hw, Bool.true_and, List.all_eq_true]; exact h2
theorem lv_nats {n : Nat} {l : List Nat} (h : l.length ≤ 16) (h2 : ∀ x ∈ l, x < 10 ^ 60) : Lv (n + 1) (.lst (l.map nat)) :=
  lv_lst (by simpa using h) fun x hx => by
    obtain ⟨y, hy, rfl⟩ := List.mem_map.1 hx
    exact lv_nat (h2 y hy)
theorem lv_natsT {n : Nat} {l : List Nat} (h : l.length ≤ 16) (h2 : ∀ x ∈ l, x < 10 ^ 60) : Lv (n + 1) (.tup (l.map nat)) :=
  lv_tup (by simpa using h) fun x hx => by
    obtain ⟨y, hy, rfl⟩ := List.mem_map.1 hx
    exact lv_nat (h2 y hy)
theorem lv_ints {n : Nat} {l : List Int} (h : l.length ≤ 16) (h2 : ∀ x ∈ l, x.natAbs < 10 ^ 60) : Lv (n + 1) (.lst (l.map D.int)) :=
  lv_lst (by simpa using h) fun x hx => by
    obtain ⟨y, hy, rfl⟩ := List.mem_map.1 hx
    exact lv_int (h2 y hy)
theorem Lv.pl {n : Nat} {d : D} (h : Lv n d) (hn : n ≤ 40 := by omega) : Pl d := ⟨n, hn, lev_shal n d h⟩
theorem Lv.len {n : Nat} {xs : List D} (h : Lv n (.lst xs)) : xs.length ≤ 64 := by
  cases n with
  | zero => cases h
  | succ n =>
    have h : (decide (xs.length ≤ widA n) && xs.all (levR widA n)) = true := h
    simp only [Bool.and_eq_true, decide_eq_true_eq] at h
    exact Nat.le_trans h.1 (by unfold widA; split <;> decide)
theorem Lv.len16 {n : Nat} {xs : List D} (h : Lv (n + 3) (.lst xs)) : xs.length ≤ 16 := by
  have h : (decide (xs.length ≤ widA (n + 2)) && xs.all (levR widA (n + 2))) = true := h
  simp only [Bool.and_eq_true, decide_eq_true_eq] at h
  exact h.1
theorem repr_ok {d : D} (h : Lv 3 d) : dRepr [d] = some (.fz (.str (txtR d))) := by
  simp only [dRepr]; rw [if_pos (by rw [h]; rfl)]
theorem reprB_ok {d : D} (h : levR widB 2 d = true) : dRepr [d] = some (.fz (.str (txtR d))) := by
  simp only [dRepr]; rw [if_pos (by rw [h]; simp)]
/-- a list of players of any kind -/
def okPl (n : Int) (l : List Int) : Bool := l.all fun x => decide (0 ≤ x) && decide (x < n)
def playersB (d : D) (n : Int) : Bool := match wholes d with
  | some l => okPl n l
  | none => false
def orderB (d : D) (n : Nat) : Bool := match wholes d with
  | some l => okPl n l && decide (sortI l = rangeI n)
  | none => false
theorem okPl_nats {n : Int} {l : List Int} (h : okPl n l = true) : ∃ m : List Nat, l = m.map (fun k => ((k : Nat) : Int)) ∧ ∀ x ∈ m, (x : Int) < n := by
  refine ⟨l.map Int.toNat, ?_, ?_⟩
  · rw [List.map_map]
    have : ∀ x ∈ l, ((fun k => ((k : Nat) : Int)) ∘ Int.toNat) x = x := fun x hx => by
      have := List.all_eq_true.1 h x hx
      simp only [Bool.and_eq_true, decide_eq_true_eq] at this
      simp only [Function.comp]; omega
    rw [List.map_congr_left this]; simp
  · intro x hx
    obtain ⟨y, hy, rfl⟩ := List.mem_map.1 hx
    have := List.all_eq_true.1 h y hy
    simp only [Bool.and_eq_true, decide_eq_true_eq] at this
    omega
theorem rangeI_sorted (n : Nat) : (rangeI n).Pairwise (· ≤ ·) := by
  unfold rangeI
  rw [List.pairwise_map]
  exact (List.pairwise_lt_range (n := n)).imp fun h => by omega
theorem orderB_perm {m : List Nat} {n : Nat} : orderB (.lst (m.map nat)) n = decide (m.Perm (List.range n)) := by
  rw [nats_ints, Bool.eq_iff_iff]
  simp only [orderB, wholes_lst, asInts_map, Bool.and_eq_true, decide_eq_true_eq]
  constructor
  · rintro ⟨_, h⟩
    have := (sortI_perm (m.map fun k => ((k : Nat) : Int))).symm
    rw [h] at this
    unfold rangeI at this
    have := this.map Int.toNat
    simpa [Function.comp_def] using this
  · intro h
    have h2 := h.map (fun k => ((k : Nat) : Int))
    refine ⟨?_, ?_⟩
    · rw [okPl, List.all_eq_true]
      intro x hx
      obtain ⟨y, hy, rfl⟩ := List.mem_map.1 hx
      have := List.mem_range.1 (h.mem_iff.1 hy)
      simp; omega
    · rw [sortI_uniq h2]; exact sortI_of (rangeI_sorted n)
theorem orderB_ex {d : D} {n : Nat} (h : orderB d n = true) : ∃ m : List Nat, d = .lst (m.map nat) ∧ m.Perm (List.range n) := by
  have h0 := h
  unfold orderB at h
  cases e : wholes d with
  | none => rw [e] at h; cases h
  | some l =>
    rw [e] at h
    simp only [Bool.and_eq_true, decide_eq_true_eq] at h
    obtain ⟨m, rfl, hm⟩ := okPl_nats h.1
    have := wholes_eq e
    subst this
    rw [← nats_ints] at h0 ⊢
    rw [orderB_perm] at h0
    exact ⟨m, rfl, of_decide_eq_true h0⟩
end PV
namespace PV
def isP (n : Int) : D → Bool
  | .int i => decide (0 ≤ i) && decide (i < n)
  | _ => false
@[simp] theorem isP_int (n i : Int) : isP n (.int i) = (decide (0 ≤ i) && decide (i < n)) := rfl
theorem isP_isW {n : Int} {d : D} (h : isP n d = true) : isW d = true := by cases d <;> first | rfl | cases h
theorem isP_no {n : Int} {d : D} (h : isW d = false) : isP n d = false := by cases d <;> first | rfl | cases h
theorem all_isP {n : Int} (xs : List D) : xs.all (isP n) = (match asInts xs with | some l => okPl n l | none => false) := by
  rw [Bool.eq_iff_iff]
  constructor
  · intro hh
    have ha : xs.all isW = true := List.all_eq_true.2 fun x hx => isP_isW (List.all_eq_true.1 hh x hx)
    obtain ⟨is, rfl⟩ := all_wholes ha
    rw [asInts_map]
    rw [List.all_map] at hh
    exact hh
  · intro hh
    cases e : asInts xs with
    | none => rw [e] at hh; cases hh
    | some l =>
      rw [e] at hh
      rw [asInts_eq e, List.all_map]
      exact hh
theorem filter_len {α : Type} (p : α → Bool) (l : List α) : decide ((l.filter p).length = l.length) = l.all p := by
  rw [Bool.eq_iff_iff, decide_eq_true_eq, List.length_filter_eq_length_iff, List.all_eq_true]
end PV
namespace PV
theorem lv_one {n : Nat} {x : D} (h : Lv n x) : ∀ y ∈ [x], Lv n y := fun y hy => by rw [List.mem_singleton.1 hy]; exact h
end PV
namespace PV
/-- papers found -/
def Pps (N : Nat) (ds : List D) : Prop := ds.length ≤ N ∧ ∀ d ∈ ds, Lv 3 d
theorem Pps.app {N : Nat} {ds : List D} {d : D} (h : Pps N ds) (hd : Lv 3 d) : Pps (N + 1) (ds ++ [d]) :=
  ⟨by have := h.1; simp; omega, fun x hx => by
    rcases List.mem_append.1 hx with hx | hx
    · exact h.2 x hx
    · rw [List.mem_singleton.1 hx]; exact hd⟩
theorem Pps.mono {N M : Nat} {ds : List D} (h : Pps N ds) (hm : N ≤ M) : Pps M ds := ⟨Nat.le_trans h.1 hm, h.2⟩
/-- a list of players, as data -/
structure Ord (L : List D) (n : Nat) : Prop where
  len : L.length = n
  sm : ∀ x ∈ L, ∀ m, Lv m x
theorem lv_mid {L : List D} {n : Nat} (h : Ord L n) (hn : n ≤ 10) {x : D} (hx : Lv 2 x) (lo hi : Option Int) (lo' hi' : Option Int) (hl : (cut L lo hi).length + (cut L lo' hi').length ≤ 14) : Lv 3 (.lst (cut L lo hi ++ [x] ++ cut L lo' hi')) := by
  refine lv_lst (by simp; omega) fun y hy => ?_
  simp only [List.mem_append, List.mem_singleton] at hy
  rcases hy with (hy | rfl) | hy
  · exact h.sm y (cut_sub hy) _
  · exact hx
  · exact h.sm y (cut_sub hy) _
theorem cut_two (L : List D) (k : Nat) : (cut L none (some (k : Int))).length + (cut L (some ((k : Int) + 1)) none).length ≤ L.length := by
  rw [cut_take, show ((k : Int) + 1) = ((k + 1 : Nat) : Int) by omega, cut_drop]
  simp; omega
theorem dAdd_mid {L : List D} {x : D} {k : Nat} (h : L.length ≤ 1000) : ∃ y, dAdd (.lst (cut L none (some (k : Int)))) (.lst [x]) = some (.own (.lst y)) ∧ dAdd (.lst y) (.lst (cut L (some ((k : Int) + 1)) none)) = some (.own (.lst (cut L none (some (k : Int)) ++ [x] ++ cut L (some ((k : Int) + 1)) none))) := by
  have ct := cut_two L k
  exact ⟨_, dAdd_lst (by simp; omega), dAdd_lst (by simp; omega)⟩
theorem lv_mids {L : List D} {n k : Nat} (h : Ord L n) (hn : n ≤ 14) {x : D} (hx : Lv 2 x) : Lv 3 (.lst (cut L none (some (k : Int)) ++ [x] ++ cut L (some ((k : Int) + 1)) none)) := by
  have ct := cut_two L k
  have := h.len
  refine lv_lst (by simp; omega) fun y hy => ?_
  simp only [List.mem_append, List.mem_singleton] at hy
  rcases hy with (hy | rfl) | hy
  · exact h.sm y (cut_sub hy) _
  · exact hx
  · exact h.sm y (cut_sub hy) _
end PV
end

section
set_option autoImplicit false
namespace PV
/-- a comprehension of two fors over single names -/
theorem eLc2_nm {α β : Type} (q : α → Bool) (p : α → β → Bool) (f : α → β → D) (r : α → β → RV) (hr : ∀ x y e, (r x y).freeze e = some (f x y, e)) (c : α → D) (l : List α) (c1 : β → D) (l1 : α → List β) {it it1 : I} {t t1 : T} {elt : E} {v w : Nat} {env env1 : Env}
    (hit : it env = some (l.map c, env1)) (hvw : v ≠ w)
    (hv : env1[v]? = some .un ∨ ∃ d, env1[v]? = some (.fz d)) (hw : env1[w]? = some .un ∨ ∃ d, env1[w]? = some (.fz d))
    (ht : ∀ x ∈ l, t ((env1.set v (.fz (c x))).set w .un) = some (q x, (env1.set v (.fz (c x))).set w .un))
    (hi : ∀ x ∈ l, q x = true → it1 ((env1.set v (.fz (c x))).set w .un) = some ((l1 x).map c1, (env1.set v (.fz (c x))).set w .un))
    (ht1 : ∀ x ∈ l, ∀ y ∈ l1 x, t1 ((env1.set v (.fz (c x))).set w (.fz (c1 y))) = some (p x y, (env1.set v (.fz (c x))).set w (.fz (c1 y))))
    (he : ∀ x ∈ l, ∀ y ∈ l1 x, p x y = true → elt ((env1.set v (.fz (c x))).set w (.fz (c1 y))) = some (r x y, (env1.set v (.fz (c x))).set w (.fz (c1 y))))
    (hlen : (l.flatMap fun x => if q x = true then ((l1 x).filter (p x)).map (f x) else []).length ≤ 16777216) :
    eLc2 it (.nm v) t it1 (.nm w) t1 elt [v, w] [w] env = some (.own (.lst (l.flatMap fun x => if q x = true then ((l1 x).filter (p x)).map (f x) else [])), env1) := by
  have hlv : v < env1.length := by
    rcases hv with h | ⟨d, h⟩ <;> exact (List.getElem?_eq_some_iff.1 h).1
  have hlw : w < env1.length := by
    rcases hw with h | ⟨d, h⟩ <;> exact (List.getElem?_eq_some_iff.1 h).1
  have hwi : wipeable [v, w] env1 = true := by rcases hv with h | ⟨d, h⟩ <;> rcases hw with h2 | ⟨d2, h2⟩ <;> simp [wipeable, h, h2]
  have inner : ∀ (x : α) (m : List β) (acc : List D) (e : Env), (∀ y ∈ m, t1 ((env1.set v (.fz (c x))).set w (.fz (c1 y))) = some (p x y, (env1.set v (.fz (c x))).set w (.fz (c1 y)))) →
      (∀ y ∈ m, p x y = true → elt ((env1.set v (.fz (c x))).set w (.fz (c1 y))) = some (r x y, (env1.set v (.fz (c x))).set w (.fz (c1 y)))) → (∃ s, e = (env1.set v (.fz (c x))).set w s) →
      ∃ e', lcL (.nm w) t1 elt [w] (m.map c1) acc e = some (acc ++ (m.filter (p x)).map (f x), e') ∧ ∃ s, e' = (env1.set v (.fz (c x))).set w s := by
    intro x m
    induction m with
    | nil => intro acc e _ _ he; exact ⟨e, by simp [lcL], he⟩
    | cons y m ih =>
      intro acc e ht he hs
      obtain ⟨s, rfl⟩ := hs
      have hput : Tg.put (.nm w) (c1 y) (wipeE [w] ((env1.set v (.fz (c x))).set w s)) = some ((env1.set v (.fz (c x))).set w (.fz (c1 y))) := by
        simp [Tg.put, putSlot, wipeE, hlw]
      by_cases h : p x y = true
      · obtain ⟨e', a, b⟩ := ih (acc ++ [f x y]) ((env1.set v (.fz (c x))).set w (.fz (c1 y))) (fun z hz => ht z (by simp [hz])) (fun z hz => he z (by simp [hz])) ⟨_, rfl⟩
        refine ⟨e', ?_, b⟩
        rw [List.map_cons, lcL, hput]
        simp only [ht y (by simp), h, he y (by simp) h, hr]
        rw [a]; simp [h]
      · obtain ⟨e', a, b⟩ := ih acc ((env1.set v (.fz (c x))).set w (.fz (c1 y))) (fun z hz => ht z (by simp [hz])) (fun z hz => he z (by simp [hz])) ⟨_, rfl⟩
        refine ⟨e', ?_, b⟩
        rw [List.map_cons, lcL, hput]
        simp only [ht y (by simp), h]
        rw [a]; simp [h]
  have outer : ∀ (m : List α) (acc : List D) (e : Env), (∀ x ∈ m, x ∈ l) → (∃ s s2, e = (env1.set v s).set w s2) →
      ∃ e', lcO (.nm v) t it1 (.nm w) t1 elt [v, w] [w] (m.map c) acc e = some (acc ++ m.flatMap (fun x => if q x = true then ((l1 x).filter (p x)).map (f x) else []), e') ∧ ∃ s s2, e' = (env1.set v s).set w s2 := by
    intro m
    induction m with
    | nil => intro acc e _ he; exact ⟨e, by simp [lcO], he⟩
    | cons x m ih =>
      intro acc e hm hs
      obtain ⟨s, s2, rfl⟩ := hs
      have hx := hm x (by simp)
      have hput : Tg.put (.nm v) (c x) (wipeE [v, w] ((env1.set v s).set w s2)) = some ((env1.set v (.fz (c x))).set w .un) := by
        have e1 : wipeE [v, w] ((env1.set v s).set w s2) = (env1.set v .un).set w .un := by
          simp only [wipeE, List.foldr_cons, List.foldr_nil]
          rw [List.set_set, List.set_comm _ _ (Ne.symm hvw), List.set_set]
        rw [e1]
        have a1 : ((env1.set v .un).set w .un)[v]? = some .un := by
          rw [List.getElem?_set_ne (Ne.symm hvw)]; simp [hlv]
        simp only [Tg.put, putSlot, a1]
        rw [List.set_comm _ _ (Ne.symm hvw), List.set_set]
      by_cases h : q x = true
      · obtain ⟨e1, a1, s3, b1⟩ := inner x (l1 x) acc ((env1.set v (.fz (c x))).set w .un) (ht1 x hx) (he x hx) ⟨_, rfl⟩
        obtain ⟨e', a, b⟩ := ih (acc ++ ((l1 x).filter (p x)).map (f x)) e1 (fun z hz => hm z (by simp [hz])) ⟨_, _, b1⟩
        refine ⟨e', ?_, b⟩
        rw [List.map_cons, lcO, hput]
        simp only [ht x hx, h, hi x hx h, a1]
        rw [a]; simp [h]
      · obtain ⟨e', a, b⟩ := ih acc ((env1.set v (.fz (c x))).set w .un) (fun z hz => hm z (by simp [hz])) ⟨_, _, rfl⟩
        refine ⟨e', ?_, b⟩
        rw [List.map_cons, lcO, hput]
        simp only [ht x hx, h]
        rw [a]; simp [h]
  obtain ⟨e', a, s, s2, rfl⟩ := outer l [] env1 (fun _ h => h) ⟨env1[v], env1[w], by
    rw [List.set_getElem_self, List.set_getElem_self]⟩
  simp only [eLc2, hit, hwi, if_true, a, List.nil_append]
  rw [if_pos hlen]
  have : backE [v, w] env1 ((env1.set v s).set w s2) = env1 := by
    simp only [backE, List.foldr_cons, List.foldr_nil]
    rw [List.set_set, List.set_comm _ _ (Ne.symm hvw), List.set_set]
    have g1 : env1.getD v .un = env1[v] := by simp [List.getD, hlv]
    have g2 : env1.getD w .un = env1[w] := by simp [List.getD, hlw]
    rw [g1, g2]
    simp
  rw [this]
theorem fr2_own {α β : Type} (f : α → β → D) : ∀ x y e, (RV.own (f x y)).freeze e = some (f x y, e) := fun _ _ _ => rfl
theorem fr2_fz {α β : Type} (f : α → β → D) : ∀ x y e, (RV.fz (f x y)).freeze e = some (f x y, e) := fun _ _ _ => rfl
/-- a list of lists of players -/
def nl (l : List (List Nat)) : D := .lst (l.map fun o => .lst (o.map nat))
@[simp] theorem dLen_nl (l : List (List Nat)) : dLen [nl l] = some (.fz (.int l.length)) := by simp [nl]
@[simp] theorem isL_nl (l : List (List Nat)) : isL (nl l) = true := rfl
end PV
end

section
set_option autoImplicit false
namespace PV
/-! ### lists made step by step; orders of all players -/
def stp (n : Nat) (ok : List Nat → Nat → Bool) : Nat → List (List Nat)
  | 0 => [[]]
  | k + 1 => (stp n ok k).flatMap fun o => ((List.range n).filter (ok o)).map fun p => o ++ [p]
theorem mem_stp {n : Nat} {ok : List Nat → Nat → Bool} : ∀ {k : Nat} {o : List Nat}, o ∈ stp n ok k ↔ o.length = k ∧ ∀ i, i < k → o.getD i 0 < n ∧ ok (o.take i) (o.getD i 0) = true
  | 0, o => by
    simp only [stp, List.mem_singleton]
    constructor
    · rintro rfl; simp
    · rintro ⟨h, _⟩; exact List.length_eq_zero_iff.1 h
  | k + 1, o => by
    simp only [stp, List.mem_flatMap, List.mem_map, List.mem_filter, List.mem_range]
    constructor
    · rintro ⟨q, hq, p, ⟨hp, hok⟩, rfl⟩
      obtain ⟨hl, hq⟩ := mem_stp.1 hq
      refine ⟨by simp [hl], fun i hi => ?_⟩
      by_cases h : i < k
      · have e1 : (q ++ [p]).getD i 0 = q.getD i 0 := by simp [List.getElem?_append_left (show i < q.length by omega)]
        have e2 : (q ++ [p]).take i = q.take i := by rw [List.take_append_of_le_length (by omega)]
        rw [e1, e2]; exact hq i h
      · have : i = k := by omega
        subst this
        have e1 : (q ++ [p]).getD i 0 = p := by simp [← hl]
        have e2 : (q ++ [p]).take i = q := by rw [List.take_append_of_le_length (by omega), ← hl, List.take_length]
        rw [e1, e2]; exact ⟨hp, hok⟩
    · rintro ⟨hl, h⟩
      have hk : k < o.length := by omega
      have eo : o = o.take k ++ [o.getD k 0] := by
        have : o.getD k 0 = o[k] := by simp [hk]
        rw [this, ← List.take_succ_eq_append_getElem hk, List.take_of_length_le (by omega)]
      refine ⟨o.take k, mem_stp.2 ⟨by simp; omega, fun i hi => ?_⟩, o.getD k 0, h k (by omega), eo.symm⟩
      have e1 : (o.take k).getD i 0 = o.getD i 0 := by simp [List.getElem?_take, hi]
      have e2 : (o.take k).take i = o.take i := by rw [List.take_take, Nat.min_eq_left (by omega)]
      rw [e1, e2]; exact h i (by omega)
theorem nodup_stp (n : Nat) (ok : List Nat → Nat → Bool) : ∀ k, (stp n ok k).Nodup
  | 0 => by simp [stp]
  | k + 1 => by
    have ih := nodup_stp n ok k
    rw [stp]
    refine List.pairwise_flatMap.2 ⟨fun o _ => ?_, ?_⟩
    · rw [List.pairwise_map]
      have hq : ∀ {a b : Nat}, a ≠ b → o ++ [a] ≠ o ++ [b] := fun h e => h (by simpa using e)
      exact List.Pairwise.imp hq ((List.nodup_range (n := n)).filter (ok o))
    · refine List.Pairwise.imp_of_mem (R := (· ≠ ·)) ?_ ih
      intro a b ha hb hne x hx y hy e
      obtain ⟨p, _, rfl⟩ := List.mem_map.1 hx
      obtain ⟨q, _, rfl⟩ := List.mem_map.1 hy
      have la := (mem_stp.1 ha).1
      have lb := (mem_stp.1 hb).1
      exact hne (List.append_inj e (by omega)).1
def ok1 (o : List Nat) (p : Nat) : Bool := !decide (p ∈ o)
/-- all orders of n players -/
def allP (n : Nat) : List (List Nat) := stp n ok1 n
theorem sub_lenG {α : Type} [DecidableEq α] : ∀ {l m : List α}, l.Nodup → (∀ x ∈ l, x ∈ m) → l.length ≤ m.length
  | [], m, _, _ => by simp
  | x :: l, m, hn, hs => by
    rw [List.nodup_cons] at hn
    have hx : x ∈ m := hs x (by simp)
    have := sub_lenG (l := l) (m := m.erase x) hn.2 fun y hy => by
      have hne : y ≠ x := fun e => hn.1 (e ▸ hy)
      exact (List.mem_erase_of_ne hne).2 (hs y (by simp [hy]))
    rw [List.length_erase_of_mem hx] at this
    have : 1 ≤ m.length := List.length_pos_of_mem hx
    simp; omega
theorem full_of {α : Type} [DecidableEq α] {l m : List α} (hn : l.Nodup) (hs : ∀ x ∈ l, x ∈ m) (hl : m.length ≤ l.length) : ∀ x ∈ m, x ∈ l := fun x hx => by
  refine Classical.byContradiction fun h => ?_
  have := sub_lenG (m := m.erase x) hn fun y hy => by
    have hne : y ≠ x := fun e => h (e ▸ hy)
    exact (List.mem_erase_of_ne hne).2 (hs y hy)
  rw [List.length_erase_of_mem hx] at this
  have : 1 ≤ m.length := List.length_pos_of_mem hx
  omega
theorem perm_of_sub {α : Type} [DecidableEq α] : ∀ {l m : List α}, l.Nodup → m.Nodup → (∀ x, x ∈ l ↔ x ∈ m) → l.Perm m
  | [], m, _, _, h => by
    cases m with
    | nil => exact .refl _
    | cons y m => exact absurd ((h y).2 (by simp)) (by simp)
  | x :: l, m, hl, hm, h => by
    have hx : x ∈ m := (h x).1 (by simp)
    rw [List.nodup_cons] at hl
    have := perm_of_sub (l := l) (m := m.erase x) hl.2 (hm.erase x) fun y => by
      rw [hm.mem_erase_iff]
      constructor
      · intro hy; exact ⟨fun e => hl.1 (e ▸ hy), (h y).1 (by simp [hy])⟩
      · rintro ⟨hne, hy⟩
        rcases List.mem_cons.1 ((h y).2 hy) with e | hy
        · exact (hne e).elim
        · exact hy
    exact (this.cons x).trans (List.perm_cons_erase hx).symm
structure IsP (n : Nat) (o : List Nat) : Prop where
  len : o.length = n
  lt : ∀ i, i < n → o.getD i 0 < n
  inj : ∀ i j, i < n → j < n → o.getD i 0 = o.getD j 0 → i = j
theorem mem_allP {n : Nat} {o : List Nat} : o ∈ allP n ↔ IsP n o := by
  unfold allP
  rw [mem_stp]
  have key : ∀ i, i < o.length → (ok1 (o.take i) (o.getD i 0) = true ↔ ∀ j, j < i → o.getD j 0 ≠ o.getD i 0) := fun i hi => by
    simp only [ok1, Bool.not_eq_true', decide_eq_false_iff_not]
    constructor
    · intro h j hj e
      apply h
      rw [List.mem_iff_getElem]
      refine ⟨j, by simp; omega, ?_⟩
      rw [List.getElem_take, ← e]
      simp [show j < o.length by omega]
    · intro h hm
      rw [List.mem_iff_getElem] at hm
      obtain ⟨j, hj, e⟩ := hm
      have hj' : j < i := by simp at hj; omega
      rw [List.getElem_take] at e
      refine h j hj' ?_
      rw [← e]; simp [show j < o.length by omega]
  constructor
  · rintro ⟨hl, h⟩
    refine ⟨hl, fun i hi => (h i hi).1, fun i j hi hj e => ?_⟩
    rcases Nat.lt_trichotomy i j with q | q | q
    · exact ((key j (by omega)).1 (h j hj).2 i q e).elim
    · exact q
    · exact ((key i (by omega)).1 (h i hi).2 j q e.symm).elim
  · intro h
    refine ⟨h.len, fun i hi => ⟨h.lt i hi, (key i (by rw [h.len]; exact hi)).2 fun j hj e => ?_⟩⟩
    have := h.inj j i (by omega) hi e
    omega
theorem nodup_allP (n : Nat) : (allP n).Nodup := nodup_stp n ok1 n
theorem IsP.nodup {n : Nat} {o : List Nat} (h : IsP n o) : o.Nodup := by
  rw [List.Nodup, List.pairwise_iff_getElem]
  intro i j hi hj hij e
  have := h.inj i j (by rw [← h.len]; exact hi) (by rw [← h.len]; exact hj) (by simp [hi, hj, e])
  omega
theorem IsP.perm {n : Nat} {o : List Nat} (h : IsP n o) : o.Perm (List.range n) := by
  have hs : ∀ x ∈ o, x ∈ List.range n := fun x hx => by
    obtain ⟨i, hi, e⟩ := List.getElem_of_mem hx
    have := h.lt i (by rw [← h.len]; exact hi)
    simp [hi, e] at this
    exact List.mem_range.2 this
  exact perm_of_sub h.nodup List.nodup_range fun x => ⟨hs x, full_of h.nodup hs (by simp [h.len]) x⟩
theorem IsP.of {n : Nat} {o : List Nat} (h : o.Perm (List.range n)) : IsP n o := by
  have hl : o.length = n := by simpa using h.length_eq
  have hn : o.Nodup := h.nodup_iff.2 List.nodup_range
  refine ⟨hl, fun i hi => ?_, fun i j hi hj e => (getD_inj hn (by omega) (by omega)).1 e⟩
  rw [List.getD_eq_getElem?_getD, List.getElem?_eq_getElem (by omega)]
  exact List.mem_range.1 (h.mem_iff.1 (List.getElem_mem _))
theorem IsP.ext {n : Nat} {o p : List Nat} (h : IsP n o) (g : IsP n p) (e : ∀ i, i < n → o.getD i 0 = p.getD i 0) : o = p := by
  apply List.ext_getElem
  · rw [h.len, g.len]
  · intro i h1 h2
    have := e i (by rw [← h.len]; exact h1)
    simpa [h1, h2] using this
/-- lists of one length -/
theorem card_eq {α β : Type} [DecidableEq α] [DecidableEq β] {l : List α} {m : List β} (f : α → β) (g : β → α) (hl : l.Nodup) (hm : m.Nodup) (hf : ∀ x ∈ l, f x ∈ m) (hg : ∀ y ∈ m, g y ∈ l) (hgf : ∀ x ∈ l, g (f x) = x) (hfg : ∀ y ∈ m, f (g y) = y) : l.length = m.length := by
  have sub : ∀ {γ : Type} [DecidableEq γ] {a b : List γ}, a.Nodup → (∀ x ∈ a, x ∈ b) → a.length ≤ b.length := by
    intro γ _ a b hn hs
    exact sub_lenG hn hs
  have h1 : (l.map f).Nodup := by
    rw [List.Nodup, List.pairwise_map]
    refine List.Pairwise.imp_of_mem (R := (· ≠ ·)) ?_ hl
    intro a b ha hb hne e
    exact hne (by rw [← hgf a ha, ← hgf b hb, e])
  have h2 : (m.map g).Nodup := by
    rw [List.Nodup, List.pairwise_map]
    refine List.Pairwise.imp_of_mem (R := (· ≠ ·)) ?_ hm
    intro a b ha hb hne e
    exact hne (by rw [← hfg a ha, ← hfg b hb, e])
  have a1 := sub h1 (b := m) fun y hy => by
    obtain ⟨x, hx, rfl⟩ := List.mem_map.1 hy
    exact hf x hx
  have a2 := sub h2 (b := l) fun y hy => by
    obtain ⟨x, hx, rfl⟩ := List.mem_map.1 hy
    exact hg x hx
  simp at a1 a2
  omega
theorem same_len {α : Type} [DecidableEq α] {l m : List α} (hl : l.Nodup) (hm : m.Nodup) (h : ∀ x, x ∈ l ↔ x ∈ m) : l.length = m.length :=
  card_eq (fun x => x) (fun x => x) hl hm (fun x => (h x).1) (fun x => (h x).2) (fun _ _ => rfl) fun _ _ => rfl
/-- o behind p -/
def comp (o p : List Nat) : List Nat := p.map fun k => o.getD k 0
def invP (n : Nat) (o : List Nat) : List Nat := (List.range n).map fun i => o.idxOf i
theorem comp_get {n : Nat} {o p : List Nat} (hp : p.length = n) {i : Nat} (hi : i < n) : (comp o p).getD i 0 = o.getD (p.getD i 0) 0 := by
  simp [comp, hp, hi]
theorem inv_get {n : Nat} {o : List Nat} {i : Nat} (hi : i < n) : (invP n o).getD i 0 = o.idxOf i := by simp [invP, hi]
theorem IsP.comp {n : Nat} {o p : List Nat} (h : IsP n o) (g : IsP n p) : IsP n (comp o p) := by
  refine ⟨by simp [PV.comp, g.len], fun i hi => ?_, fun i j hi hj e => ?_⟩
  · rw [comp_get g.len hi]; exact h.lt _ (g.lt i hi)
  · rw [comp_get g.len hi, comp_get g.len hj] at e
    exact g.inj i j hi hj (h.inj _ _ (g.lt i hi) (g.lt j hj) e)
theorem IsP.idx {n : Nat} {o : List Nat} (h : IsP n o) {i : Nat} (hi : i < n) : o.idxOf i < n ∧ o.getD (o.idxOf i) 0 = i := by
  have hm : i ∈ o := h.perm.mem_iff.2 (List.mem_range.2 hi)
  have h1 := List.idxOf_lt_length_iff.2 hm
  refine ⟨by rw [← h.len]; exact h1, ?_⟩
  simp [h1]
theorem IsP.idx_of {n : Nat} {o : List Nat} (h : IsP n o) {i : Nat} (hi : i < n) : o.idxOf (o.getD i 0) = i := by
  have := h.idx (h.lt i hi)
  exact h.inj _ _ this.1 hi this.2
theorem IsP.inv {n : Nat} {o : List Nat} (h : IsP n o) : IsP n (invP n o) := by
  refine ⟨by simp [invP], fun i hi => ?_, fun i j hi hj e => ?_⟩
  · rw [inv_get hi]; exact (h.idx hi).1
  · rw [inv_get hi, inv_get hj] at e
    have a := (h.idx hi).2
    have b := (h.idx hj).2
    rw [e, b] at a; exact a.symm
theorem comp_inv {n : Nat} {o p : List Nat} (h : IsP n o) (g : IsP n p) : comp (comp o p) (invP n p) = o :=
  IsP.ext ((h.comp g).comp g.inv) h fun i hi => by
    rw [comp_get g.inv.len hi, comp_get g.len (g.inv.lt i hi), inv_get hi, (g.idx hi).2]
theorem inv_comp {n : Nat} {o p : List Nat} (h : IsP n o) (g : IsP n p) : comp (comp o (invP n p)) p = o :=
  IsP.ext ((h.comp g.inv).comp g) h fun i hi => by
    rw [comp_get g.len hi, comp_get g.inv.len (g.lt i hi), inv_get (g.lt i hi), g.idx_of hi]
theorem invL_comp {n : Nat} {o p : List Nat} (h : IsP n o) (g : IsP n p) : comp (invP n o) (comp o p) = p :=
  IsP.ext (h.inv.comp (h.comp g)) g fun i hi => by
    rw [comp_get (h.comp g).len hi, inv_get ((h.comp g).lt i hi), comp_get g.len hi, h.idx_of (g.lt i hi)]
theorem comp_invL {n : Nat} {o p : List Nat} (h : IsP n o) (g : IsP n p) : comp o (comp (invP n o) p) = p :=
  IsP.ext (h.comp (h.inv.comp g)) g fun i hi => by
    rw [comp_get (h.inv.comp g).len hi, comp_get g.len hi, inv_get (g.lt i hi), (h.idx (g.lt i hi)).2]
theorem inv_inv {n : Nat} {o : List Nat} (h : IsP n o) : invP n (invP n o) = o :=
  IsP.ext h.inv.inv h fun i hi => by
    rw [inv_get hi]
    have a := h.inv.idx hi
    rw [inv_get a.1] at a
    have b := (h.idx a.1).2
    rw [a.2] at b; exact b.symm
/-- a table renamed -/
def ren (n : Nat) (t : List (List Nat)) (o : List Nat) : List (List Nat) := rowsC (fun i j => cel t (o.getD i 0) (o.getD j 0)) n
theorem cel_ren {n : Nat} {t : List (List Nat)} {o : List Nat} {i j : Nat} (hi : i < n) (hj : j < n) : cel (ren n t o) i j = cel t (o.getD i 0) (o.getD j 0) := cel_rowsC hi hj
theorem Sq_ren (n : Nat) (t : List (List Nat)) (o : List Nat) : Sq (ren n t o) n := Sq_rowsC _ n
theorem IsTab.ren {n : Nat} {t : List (List Nat)} {o : List Nat} (h : IsTab t n) (g : IsP n o) : IsTab (ren n t o) n :=
  ⟨Sq_ren n t o, fun i hi => by rw [cel_ren hi hi]; exact h.dia _ (g.lt i hi), fun i j hi hj hij => by
    rw [cel_ren hi hj, cel_ren hj hi]
    exact h.game _ _ (g.lt i hi) (g.lt j hj) fun e => hij (g.inj i j hi hj e)⟩
theorem ren_ren {n : Nat} {t : List (List Nat)} {o p : List Nat} (g : IsP n p) : ren n (ren n t o) p = ren n t (comp o p) :=
  (Sq_ren _ _ _).ext (Sq_ren _ _ _) fun i j hi hj => by
    rw [cel_ren hi hj, cel_ren hi hj, cel_ren (g.lt i hi) (g.lt j hj), comp_get g.len hi, comp_get g.len hj]
theorem IsP_range (n : Nat) : IsP n (List.range n) := .of (.refl _)
theorem range_get {n i : Nat} (h : i < n) : (List.range n).getD i 0 = i := by simp [h]
theorem ren_id {n : Nat} {t : List (List Nat)} (h : Sq t n) : ren n t (List.range n) = t :=
  (Sq_ren _ _ _).ext h fun i j hi hj => by rw [cel_ren hi hj, range_get hi, range_get hj]
/-- the orders that lead t to u -/
def onto (n : Nat) (t u : List (List Nat)) : List (List Nat) := (allP n).filter fun o => decide (ren n t o = u)
theorem mem_onto {n : Nat} {t u : List (List Nat)} {o : List Nat} : o ∈ onto n t u ↔ IsP n o ∧ ren n t o = u := by
  simp [onto, mem_allP]
theorem nodup_onto (n : Nat) (t u : List (List Nat)) : (onto n t u).Nodup := (nodup_allP n).filter _
/-- every renaming comes as often -/
theorem onto_ren {n : Nat} {t : List (List Nat)} {p : List Nat} (h : Sq t n) (g : IsP n p) : (onto n t (ren n t p)).length = (onto n t t).length := by
  refine card_eq (fun o => comp o (invP n p)) (fun o => comp o p) (nodup_onto _ _ _) (nodup_onto _ _ _) ?_ ?_ ?_ ?_
  · intro o ho
    obtain ⟨a, b⟩ := mem_onto.1 ho
    refine mem_onto.2 ⟨a.comp g.inv, ?_⟩
    rw [← ren_ren g.inv, b, ren_ren g.inv]
    have : comp p (invP n p) = List.range n := by
      have := comp_inv (IsP_range n) g
      have e : comp (List.range n) p = p := IsP.ext ((IsP_range n).comp g) g fun i hi => by rw [comp_get g.len hi, range_get (g.lt i hi)]
      rw [e] at this; exact this
    rw [this, ren_id h]
  · intro o ho
    obtain ⟨a, b⟩ := mem_onto.1 ho
    exact mem_onto.2 ⟨a.comp g, by rw [← ren_ren g, b]⟩
  · intro o ho
    exact inv_comp (mem_onto.1 ho).1 g
  · intro o ho
    exact comp_inv (mem_onto.1 ho).1 g
theorem onto_of_ren {n : Nat} {t : List (List Nat)} {p : List Nat} (h : Sq t n) (g : IsP n p) : (onto n (ren n t p) (ren n t p)).length = (onto n t t).length := by
  rw [← onto_ren h g]
  refine card_eq (fun o => comp p o) (fun o => comp (invP n p) o) (nodup_onto _ _ _) (nodup_onto _ _ _) ?_ ?_ ?_ ?_
  · intro o ho
    obtain ⟨a, b⟩ := mem_onto.1 ho
    exact mem_onto.2 ⟨g.comp a, by rw [← ren_ren a, b]⟩
  · intro o ho
    obtain ⟨a, b⟩ := mem_onto.1 ho
    exact mem_onto.2 ⟨g.inv.comp a, by rw [ren_ren (g.inv.comp a), comp_invL g a, b]⟩
  · intro o ho
    exact invL_comp g (mem_onto.1 ho).1
  · intro o ho
    exact comp_invL g (mem_onto.1 ho).1
/-- counted by what comes out -/
theorem len_by {α β : Type} [DecidableEq β] (f : α → β) : ∀ (l : List α) (U : List β), U.Nodup → (∀ x ∈ l, f x ∈ U) → l.length = (U.map fun u => (l.filter fun x => decide (f x = u)).length).sum
  | [], U, _, _ => by
    have : ∀ U : List β, (U.map fun u => (([] : List α).filter fun x => decide (f x = u)).length).sum = 0 := fun U => by
      induction U with
      | nil => rfl
      | cons u U ih => simp at ih ⊢; exact ih
    rw [this]; rfl
  | x :: l, U, hU, hx => by
    have ih := len_by f l U hU fun y hy => hx y (by simp [hy])
    have hm := hx x (by simp)
    have key : ∀ U : List β, U.Nodup → (U.map fun u => ((x :: l).filter fun y => decide (f y = u)).length).sum = (U.map fun u => (l.filter fun y => decide (f y = u)).length).sum + if f x ∈ U then 1 else 0 := by
      intro U
      induction U with
      | nil => intro _; rfl
      | cons u U ih2 =>
        intro hU
        rw [List.nodup_cons] at hU
        rw [List.map_cons, List.map_cons, List.sum_cons, List.sum_cons, ih2 hU.2, List.filter_cons]
        by_cases e : f x = u
        · subst e
          simp [hU.1]; omega
        · have e2 : (f x ∈ u :: U) ↔ f x ∈ U := by simp [e]
          simp only [e, e2, decide_false, Bool.false_eq_true, if_false]; omega
    rw [key U hU, ← ih, if_pos hm]; rfl
theorem sum_const {α : Type} (l : List α) (f : α → Nat) (c : Nat) (h : ∀ x ∈ l, f x = c) : (l.map f).sum = l.length * c := by
  induction l with
  | nil => simp
  | cons x l ih => rw [List.map_cons, List.sum_cons, h x (by simp), ih fun y hy => h y (by simp [hy]), List.length_cons, Nat.succ_mul]; omega
/-- as many renamings as orders by symmetries -/
theorem all_by {n : Nat} {t : List (List Nat)} (h : Sq t n) {U : List (List (List Nat))} (hU : U.Nodup) (h1 : ∀ u ∈ U, ∃ p, IsP n p ∧ u = ren n t p) (h2 : ∀ p, IsP n p → ren n t p ∈ U) : U.length * (onto n t t).length = (allP n).length := by
  rw [len_by (ren n t) (allP n) U hU fun o ho => h2 o (mem_allP.1 ho)]
  rw [sum_const]
  intro u hu
  obtain ⟨p, hp, rfl⟩ := h1 u hu
  exact onto_ren h hp
def dedup {α : Type} [DecidableEq α] (l : List α) : List α := l.foldl (fun u x => if x ∈ u then u else u ++ [x]) []
theorem dedup_from {α : Type} [DecidableEq α] : ∀ (l u : List α), u.Nodup → (l.foldl (fun u x => if x ∈ u then u else u ++ [x]) u).Nodup ∧ ∀ y, y ∈ l.foldl (fun u x => if x ∈ u then u else u ++ [x]) u ↔ y ∈ u ∨ y ∈ l
  | [], u, h => ⟨h, by simp⟩
  | x :: l, u, h => by
    rw [List.foldl_cons]
    by_cases hx : x ∈ u
    · rw [if_pos hx]
      obtain ⟨a, b⟩ := dedup_from l u h
      refine ⟨a, fun y => ?_⟩
      rw [b]
      simp only [List.mem_cons]
      constructor
      · rintro (h | h)
        · exact .inl h
        · exact .inr (.inr h)
      · rintro (h | rfl | h)
        · exact .inl h
        · exact .inl hx
        · exact .inr h
    · rw [if_neg hx]
      obtain ⟨a, b⟩ := dedup_from l (u ++ [x]) (by
        rw [List.nodup_append]
        refine ⟨h, by simp, fun y hy z hz e => ?_⟩
        rw [List.mem_singleton.1 hz] at e
        exact hx (e ▸ hy))
      refine ⟨a, fun y => ?_⟩
      rw [b]
      simp [or_assoc]
theorem dedup_ok {α : Type} [DecidableEq α] (l : List α) : (dedup l).Nodup ∧ ∀ y, y ∈ dedup l ↔ y ∈ l := by
  obtain ⟨a, b⟩ := dedup_from l [] (by simp)
  exact ⟨a, fun y => by rw [dedup, b]; simp⟩
theorem split_len {α : Type} (p : α → Bool) : ∀ l : List α, l.length = (l.filter p).length + (l.filter fun x => !p x).length
  | [] => rfl
  | x :: l => by
    have := split_len p l
    cases h : p x <;> simp [h] <;> omega
theorem len_stp_ok1 (n : Nat) : ∀ k, k ≤ n → (stp n ok1 (k + 1)).length = (n - k) * (stp n ok1 k).length := by
  intro k hk
  rw [stp, List.length_flatMap]
  rw [sum_const _ _ (n - k)]
  · rw [Nat.mul_comm]
  · intro o ho
    obtain ⟨hl, h⟩ := mem_stp.1 ho
    rw [List.length_map]
    have e := split_len (ok1 o) (List.range n)
    have e2 : ((List.range n).filter fun p => !ok1 o p).length = k := by
      rw [← hl]
      refine same_len (List.nodup_range.filter _) ?_ fun x => ?_
      · rw [List.Nodup, List.pairwise_iff_getElem]
        intro i j hi hj hij e
        have := (h j (by omega)).2
        simp only [ok1, Bool.not_eq_true', decide_eq_false_iff_not] at this
        apply this
        rw [List.mem_iff_getElem]
        refine ⟨i, by simp; omega, ?_⟩
        rw [List.getElem_take, e]; simp [hj]
      · simp only [List.mem_filter, List.mem_range, ok1, Bool.not_not, decide_eq_true_eq]
        constructor
        · exact fun h => h.2
        · intro hx
          refine ⟨?_, hx⟩
          obtain ⟨i, hi, e⟩ := List.getElem_of_mem hx
          have := (h i (by omega)).1
          simp [hi, e] at this; exact this
    simp only [List.length_range] at e
    omega
/-- n! -/
def facN : Nat → Nat
  | 0 => 1
  | k + 1 => (k + 1) * facN k
theorem len_allP (n : Nat) : (allP n).length = facN n := by
  have key : ∀ k, k ≤ n → facN (n - k) * (stp n ok1 k).length = facN n := by
    intro k
    induction k with
    | zero => intro _; simp [stp]
    | succ k ih =>
      intro hk
      rw [len_stp_ok1 n k (by omega), ← ih (by omega)]
      have : n - k = (n - (k + 1)) + 1 := by omega
      rw [this, facN]
      rw [Nat.mul_comm (n - (k + 1) + 1) (facN _), Nat.mul_assoc]
  have := key n (Nat.le_refl _)
  rw [Nat.sub_self, facN, Nat.one_mul] at this
  exact this
/-- a list that turns into itself with one place fixed is odd -/
theorem odd_inv {α : Type} [DecidableEq α] (f : α → α) (a : α) : ∀ (N : Nat) (l : List α), l.length ≤ N → l.Nodup → a ∈ l → (∀ x ∈ l, f x ∈ l) → (∀ x ∈ l, f (f x) = x) → (∀ x ∈ l, f x = x ↔ x = a) → l.length % 2 = 1
  | 0, l, hN, _, ha, _, _, _ => by
    cases l with
    | nil => simp at ha
    | cons x l => simp at hN
  | N + 1, l, hN, hn, ha, h1, h2, h3 => by
    by_cases h : ∃ x ∈ l, x ≠ a
    · obtain ⟨x, hx, hxa⟩ := h
      have hfx : f x ≠ x := fun e => hxa ((h3 x hx).1 e)
      have hfa : f x ≠ a := fun e => by
        have e2 := h2 x hx
        rw [e, (h3 a ha).2 rfl] at e2
        exact hxa e2.symm
      have m1 : f x ∈ l.erase x := (List.mem_erase_of_ne hfx).2 (h1 x hx)
      have l1 := List.length_erase_of_mem hx
      have l2 := List.length_erase_of_mem m1
      have n1 := hn.erase x
      have n2 := n1.erase (f x)
      have mem : ∀ y, y ∈ (l.erase x).erase (f x) ↔ y ∈ l ∧ y ≠ x ∧ y ≠ f x := fun y => by
        rw [n1.mem_erase_iff, hn.mem_erase_iff]
        constructor
        · rintro ⟨p, q, r⟩; exact ⟨r, q, p⟩
        · rintro ⟨r, q, p⟩; exact ⟨p, q, r⟩
      have lp : 2 ≤ l.length := by
        have := List.length_pos_of_mem m1
        omega
      have ih := odd_inv f a N ((l.erase x).erase (f x)) (by omega) n2 ((mem a).2 ⟨ha, Ne.symm hxa, Ne.symm hfa⟩) (fun y hy => by
        obtain ⟨p, q, r⟩ := (mem y).1 hy
        refine (mem _).2 ⟨h1 y p, fun e => r ?_, fun e => q ?_⟩
        · rw [← e, h2 y p]
        · have := h2 y p
          rw [e, h2 x hx] at this; exact this.symm) (fun y hy => h2 y ((mem y).1 hy).1) (fun y hy => h3 y ((mem y).1 hy).1)
      omega
    · have : ∀ x ∈ l, x = a := fun x hx => Classical.byContradiction fun e => h ⟨x, hx, e⟩
      cases l with
      | nil => simp at ha
      | cons x l =>
        cases l with
        | nil => rfl
        | cons y l =>
          rw [this x (by simp), this y (by simp)] at hn
          simp at hn
theorem onto_odd {n : Nat} {t : List (List Nat)} (h : IsTab t n) : (onto n t t).length % 2 = 1 := by
  refine odd_inv (invP n) (List.range n) _ (onto n t t) (Nat.le_refl _) (nodup_onto _ _ _) (mem_onto.2 ⟨IsP_range n, ren_id h.toSq⟩) ?_ ?_ ?_
  · intro o ho
    obtain ⟨a, b⟩ := mem_onto.1 ho
    refine mem_onto.2 ⟨a.inv, ?_⟩
    have e : ren n (ren n t o) (invP n o) = ren n t (invP n o) := by rw [b]
    rw [ren_ren a.inv] at e
    have : comp o (invP n o) = List.range n := by
      have := comp_inv (IsP_range n) a
      have e : comp (List.range n) o = o := IsP.ext ((IsP_range n).comp a) a fun i hi => by rw [comp_get a.len hi, range_get (a.lt i hi)]
      rw [e] at this; exact this
    rw [this, ren_id h.toSq] at e
    exact e.symm
  · intro o ho
    exact inv_inv (mem_onto.1 ho).1
  · intro o ho
    obtain ⟨a, b⟩ := mem_onto.1 ho
    constructor
    · intro e
      refine IsP.ext a (IsP_range n) fun i hi => ?_
      rw [range_get hi]
      refine Classical.byContradiction fun hne => ?_
      have hlt := a.lt i hi
      have e2 : o.getD (o.getD i 0) 0 = i := by
        have e3 : (invP n o).getD (o.getD i 0) 0 = i := by rw [inv_get hlt]; exact a.idx_of hi
        rw [e] at e3; exact e3
      have c1 : cel (ren n t o) i (o.getD i 0) = cel t i (o.getD i 0) := by rw [b]
      rw [cel_ren hi hlt, e2] at c1
      rcases h.game i (o.getD i 0) hi hlt (Ne.symm hne) with ⟨p, q⟩ | ⟨p, q⟩
      · rw [p, q] at c1; omega
      · rw [p, q] at c1; omega
    · rintro rfl
      exact IsP.ext (IsP_range n).inv (IsP_range n) fun i hi => by
        rw [inv_get hi, range_get hi]
        have := (IsP_range n).idx_of hi
        rw [range_get hi] at this; exact this
end PV
namespace PV
def ok2 (t u : List (List Nat)) (o : List Nat) (p : Nat) : Bool := !decide (p ∈ o) && (List.range o.length).all fun i => decide (cel t p (o.getD i 0) = cel u o.length i)
theorem ok2_ok1 {t u : List (List Nat)} {o : List Nat} {p : Nat} (h : ok2 t u o p = true) : ok1 o p = true := by
  simp only [ok2, Bool.and_eq_true] at h; exact h.1
theorem stp_sub {n : Nat} {ok : List Nat → Nat → Bool} (h : ∀ o p, ok o p = true → ok1 o p = true) {k : Nat} {o : List Nat} (ho : o ∈ stp n ok k) : o ∈ stp n ok1 k := by
  obtain ⟨a, b⟩ := mem_stp.1 ho
  exact mem_stp.2 ⟨a, fun i hi => ⟨(b i hi).1, h _ _ (b i hi).2⟩⟩
theorem facN_pos : ∀ n, 1 ≤ facN n
  | 0 => by decide
  | n + 1 => by
    have := facN_pos n
    rw [facN]
    exact Nat.le_trans this (Nat.le_mul_of_pos_left _ (by omega))
theorem facN_mono {n m : Nat} (h : n ≤ m) : facN n ≤ facN m := by
  induction h with
  | refl => exact Nat.le_refl _
  | step h ih => exact Nat.le_trans ih (by rw [facN]; exact Nat.le_mul_of_pos_left _ (by omega))
theorem len_stp_le (n k : Nat) (hk : k ≤ n) : (stp n ok1 k).length ≤ facN n := by
  have key : ∀ k, k ≤ n → facN (n - k) * (stp n ok1 k).length = facN n := by
    intro k
    induction k with
    | zero => intro _; simp [stp]
    | succ k ih =>
      intro hk
      rw [len_stp_ok1 n k (by omega), ← ih (by omega)]
      have : n - k = (n - (k + 1)) + 1 := by omega
      rw [this, facN]
      rw [Nat.mul_comm (n - (k + 1) + 1) (facN _), Nat.mul_assoc]
  have h1 := key k hk
  have h2 := facN_pos (n - k)
  rw [← h1]
  exact Nat.le_mul_of_pos_left _ (by omega)
theorem len_stp_sub {n : Nat} {ok : List Nat → Nat → Bool} (h : ∀ o p, ok o p = true → ok1 o p = true) {k : Nat} (hk : k ≤ n) : (stp n ok k).length ≤ facN n :=
  Nat.le_trans (sub_lenG (nodup_stp n ok k) fun _ ho => stp_sub h ho) (len_stp_le n k hk)
theorem len_small {n : Nat} {ok : List Nat → Nat → Bool} (h : ∀ o p, ok o p = true → ok1 o p = true) {k : Nat} (hk : k ≤ n) (hn : n ≤ 7) : (stp n ok k).length ≤ 5040 :=
  Nat.le_trans (len_stp_sub h hk) (Nat.le_trans (facN_mono hn) (by decide))
/-- what is found step by step are the orders that lead t to u -/
theorem mem_stp2 {n : Nat} {t u : List (List Nat)} (ht : IsTab t n) (hu : IsTab u n) {o : List Nat} : o ∈ stp n (ok2 t u) n ↔ o ∈ onto n t u := by
  rw [mem_onto]
  constructor
  · intro ho
    have hp : IsP n o := mem_allP.1 (stp_sub (fun _ _ => ok2_ok1) ho)
    refine ⟨hp, (Sq_ren n t o).ext hu.toSq fun i j hi hj => ?_⟩
    rw [cel_ren hi hj]
    obtain ⟨hl, h⟩ := mem_stp.1 ho
    have low : ∀ i j, i < n → j < i → cel t (o.getD i 0) (o.getD j 0) = cel u i j := fun i j hi hj => by
      have := (h i hi).2
      simp only [ok2, Bool.and_eq_true, List.all_eq_true, List.mem_range, decide_eq_true_eq] at this
      have e := this.2 j (by simp; omega)
      have e1 : (o.take i).getD j 0 = o.getD j 0 := by simp [List.getElem?_take, hj]
      have e2 : (o.take i).length = i := by simp; omega
      rw [e1, e2] at e; exact e
    rcases Nat.lt_trichotomy i j with q | q | q
    · have e := low j i hj q
      have a := ht.game _ _ (hp.lt i hi) (hp.lt j hj) fun e => by have := hp.inj i j hi hj e; omega
      have b := hu.game i j hi hj (by omega)
      rcases a with ⟨a1, a2⟩ | ⟨a1, a2⟩ <;> rcases b with ⟨b1, b2⟩ | ⟨b1, b2⟩ <;> omega
    · subst q
      rw [ht.dia _ (hp.lt i hi), hu.dia i hi]
    · exact low i j hi q
  · rintro ⟨hp, rfl⟩
    obtain ⟨hl, h⟩ := mem_stp.1 (mem_allP.2 hp)
    refine mem_stp.2 ⟨hl, fun i hi => ⟨(h i hi).1, ?_⟩⟩
    have h1 := (h i hi).2
    simp only [ok2, Bool.and_eq_true, List.all_eq_true, List.mem_range, decide_eq_true_eq]
    refine ⟨h1, fun j hj => ?_⟩
    have hj : j < i := by simp at hj; omega
    have e1 : (o.take i).getD j 0 = o.getD j 0 := by simp [List.getElem?_take, hj]
    have e2 : (o.take i).length = i := by simp; omega
    rw [e1, e2, cel_ren hi (by omega)]
theorem len_stp2 {n : Nat} {t u : List (List Nat)} (ht : IsTab t n) (hu : IsTab u n) : (stp n (ok2 t u) n).length = (onto n t u).length :=
  same_len (nodup_stp _ _ _) (nodup_onto _ _ _) fun _ => mem_stp2 ht hu
end PV
end

section
set_option autoImplicit false
namespace PV
/-- a loop that gathers what each turn tells -/
theorem Run_acc {α β : Type} {it : I} {tg : Tg} {body : S} {env env1 : Env} {P : Out → Prop} (l : List α) (c : α → D) (f : α → List β) (Q : List β → Env → Prop) (acc : List β) (B : Nat) (hB : acc.length + (l.flatMap f).length ≤ B) (hit : it env = some (l.map c, env1)) (h0 : Q acc env1)
    (hs : ∀ x ∈ l, ∀ a : List β, a.length + (f x).length ≤ B → ∀ e, Q a e → ∃ e1, tg.put (c x) e = some e1 ∧ Run body e1 (nx (Q (a ++ f x)))) (hP : ∀ e, Q (acc ++ l.flatMap f) e → P (.nxt e)) : Run (sFor it tg body) env P := by
  refine Run_forGo l c (fun k => Q (acc ++ (l.take k).flatMap f)) hit (by simpa using h0) (fun k hk e he => ?_) (by simpa using hP)
  have e1 : (l.take (k + 1)).flatMap f = (l.take k).flatMap f ++ f l[k] := by rw [List.take_succ_eq_append_getElem hk, List.flatMap_append, List.flatMap_singleton]
  have e2 : l.flatMap f = (l.take (k + 1)).flatMap f ++ (l.drop (k + 1)).flatMap f := by rw [← List.flatMap_append, List.take_append_drop]
  obtain ⟨e1', a, b⟩ := hs l[k] (List.getElem_mem _) (acc ++ (l.take k).flatMap f) (by rw [e2, e1] at hB; simp only [List.length_append] at hB ⊢; omega) e he
  refine ⟨e1', a, ?_⟩
  rw [e1, ← List.append_assoc]
  exact b
theorem enum_nats (m : List Nat) : enumL 0 (m.map nat) = (List.range m.length).map fun i => D.tup [nat i, nat (m.getD i 0)] := by
  have := enumL_range (fun i => nat (m.getD i 0)) m.length
  rw [map_getD (l := m) nat] at this
  exact this
theorem range_split {i k : Nat} (h : i < k) : List.range k = List.range (i + 1) ++ List.range' (i + 1) (k - (i + 1)) := by
  rw [List.range_eq_range', List.range_eq_range', show k = (i + 1) + (k - (i + 1)) by omega, ← List.range'_append]
  simp
/-- a comprehension whose test draws: some of the items -/
theorem eLc_sub {α : Type} (c : α → D) (l : List α) (Q Q' : Env → Prop) {it : I} {tg : Tg} {t : T} {elt : E} {vs : List Nat} {env env1 : Env} (hit : it env = some (l.map c, env1)) (hw : wipeable vs env1 = true) (h0 : Q env1)
    (hs : ∀ x ∈ l, ∀ e, Q e → ∃ e1, tg.put (c x) (wipeE vs e) = some e1 ∧ ∃ b e2, t e1 = some (b, e2) ∧ if b = true then ∃ e3, elt e2 = some (.fz (c x), e3) ∧ Q e3 else Q e2)
    (hb : ∀ e, Q e → Q' (backE vs env1 e)) : ∃ m : List α, m.Sublist l ∧ ∃ e', eLc it tg t elt vs env = some (.own (.lst (m.map c)), e') ∧ Q' e' := by
  have key : ∀ (l : List α) (acc : List D) (e : Env), (∀ x ∈ l, ∀ e, Q e → ∃ e1, tg.put (c x) (wipeE vs e) = some e1 ∧ ∃ b e2, t e1 = some (b, e2) ∧ if b = true then ∃ e3, elt e2 = some (.fz (c x), e3) ∧ Q e3 else Q e2) → Q e →
      ∃ m : List α, m.Sublist l ∧ ∃ e', lcL tg t elt vs (l.map c) acc e = some (acc ++ m.map c, e') ∧ Q e' := by
    intro l
    induction l with
    | nil => exact fun acc e _ he => ⟨[], .slnil, e, by simp [lcL], he⟩
    | cons x l ih =>
      intro acc e hs he
      obtain ⟨e1, a, b, e2, p, q⟩ := hs x (by simp) e he
      cases b with
      | true =>
        rw [if_pos rfl] at q
        obtain ⟨e3, r, q⟩ := q
        obtain ⟨m, u, e', v, w⟩ := ih (acc ++ [c x]) e3 (fun y hy => hs y (by simp [hy])) q
        exact ⟨x :: m, u.cons_cons x, e', by simp only [List.map_cons, lcL, a, p, r, RV.freeze, v]; simp, w⟩
      | false =>
        rw [if_neg (by simp)] at q
        obtain ⟨m, u, e', v, w⟩ := ih acc e2 (fun y hy => hs y (by simp [hy])) q
        exact ⟨m, u.cons x, e', by simp only [List.map_cons, lcL, a, p, v], w⟩
  obtain ⟨m, u, e', v, w⟩ := key l [] env1 hs h0
  exact ⟨m, u, _, by simp only [eLc, hit, hw, if_true, v, List.nil_append], hb _ w⟩
@[simp] theorem eSortR_s (k : LK) (j : Nat) (es : EL) (s0 : Slot) (q0 : Env) : eSortR k j es (s0 :: q0) = (match es (s0 :: q0) with
  | none => none
  | some (rs, env1) => match peekAll env1 rs, (env1[j]?).bind Slot.d? with
    | some [.int n], some (.lst ks) => match asInts ks with
      | some ys => if 0 ≤ n ∧ n ≤ (ys.length : Int) then some (.own (.lst ((sortK k ys (rangeL 0 n)).map D.int)), env1) else none
      | _ => none
    | _, _ => none) := Eq.trans rfl rfl
@[simp] theorem eSortK_s (k : LK) (j : Nat) (es : EL) (s0 : Slot) (q0 : Env) : eSortK k j es (s0 :: q0) = (match es (s0 :: q0) with
  | none => none
  | some (rs, env1) => match peekAll env1 rs, (env1[j]?).bind Slot.d? with
    | some [.lst ds], some (.lst ks) => match asInts ds, asInts ks with
      | some bs, some ys => if inIx ys bs = true then some (.own (.lst ((sortK k ys bs).map D.int)), env1) else none
      | _, _ => none
    | _, _ => none) := Eq.trans rfl rfl
/-- sorted by falling numbers -/
theorem sortK_neg (ws : List Nat) : ∃ pl : List Nat, sortK .neg (ws.map fun k => ((k : Nat) : Int)) (rangeL 0 (ws.length : Nat)) = pl.map (fun k => ((k : Nat) : Int)) ∧ pl.Perm (List.range ws.length) ∧ pl.Pairwise fun a b => ws.getD b 0 ≤ ws.getD a 0 := by
  have hr : rangeL 0 (ws.length : Nat) = (List.range ws.length).map fun k => ((k : Nat) : Int) := rangeL_nat _
  let le : Nat → Nat → Bool := fun a b => decide (ws.getD b 0 ≤ ws.getD a 0)
  refine ⟨(List.range ws.length).mergeSort le, ?_, List.mergeSort_perm _ _, ?_⟩
  · rw [hr]
    unfold sortK
    refine (List.map_mergeSort (r := le) (s := lkLe .neg _) (f := fun k => ((k : Nat) : Int)) fun a ha b hb => ?_).symm
    have ha := List.mem_range.1 ha
    have hb := List.mem_range.1 hb
    simp only [le, lkLe]
    have g : ∀ x, x < ws.length → (ws.map fun k => ((k : Nat) : Int)).getD ((x : Nat) : Int).toNat 0 = ((ws.getD x 0 : Nat) : Int) := fun x hx => by simp [hx]
    rw [decide_eq_decide, g a ha, g b hb]; omega
  · refine (List.pairwise_mergeSort (le := le) (fun a b c h1 h2 => ?_) (fun a b => ?_) _).imp fun h => by simpa [le] using h
    · simp only [le, decide_eq_true_eq] at *; omega
    · simp only [le, Bool.or_eq_true, decide_eq_true_eq]; omega
end PV
end

section
set_option autoImplicit false
namespace PV
variable {s0 : Slot} {q0 : Env}
@[simp] theorem frzS_tre (d : D) : frzS (.tre d) = .fz d := rfl
@[simp] theorem flat_tre (d : D) : RV.flat (.tre d) = false := rfl
@[simp] theorem eFz_s (e : E) : eFz e (s0 :: q0) = (match e (s0 :: q0) with
  | none => none
  | some (r, env1) => match r.freeze env1 with
    | none => none
    | some (d, env2) => some (.fz d, env2)) := Eq.trans rfl rfl
@[simp] theorem ePure_s (f : E) : ePure f (s0 :: q0) = (match f ((s0 :: q0).map frzS) with
  | some (r, _) => if r.flat = true then some (r, (s0 :: q0)) else none
  | none => none) := Eq.trans rfl rfl
@[simp] theorem tPure_s (t : T) : tPure t (s0 :: q0) = (match t ((s0 :: q0).map frzS) with
  | some (b, _) => some (b, (s0 :: q0))
  | none => none) := Eq.trans rfl rfl
@[simp] theorem moveAll_nil (env : Env) : moveAll [] env = some ([], env) := Eq.trans rfl rfl
@[simp] theorem moveAll_fz (d : D) (rs : List RV) (env : Env) : moveAll (.fz d :: rs) env = (if d.leaf = true then
      match moveAll rs env with
      | none => none
      | some (ds, env2) => some (d :: ds, env2)
    else none) := Eq.trans rfl rfl
@[simp] theorem moveAll_bor (i : Nat) (rs : List RV) (env : Env) : moveAll (.bor i :: rs) env = (match env[i]? with
    | some (.own (.lst es)) => match moveAll rs (env.set i .un) with
      | none => none
      | some (ds, env2) => some (.lst es :: ds, env2)
    | some (.fz d) => if d.leaf = true then
        match moveAll rs env with
        | none => none
        | some (ds, env2) => some (d :: ds, env2)
      else none
    | _ => none) := Eq.trans rfl rfl
@[simp] theorem leaf_non : D.leaf .non = true := rfl
@[simp] theorem leaf_bl (b : Bool) : D.leaf (.bl b) = true := rfl
@[simp] theorem leaf_int (b : Int) : D.leaf (.int b) = true := rfl
@[simp] theorem leaf_str (b : List Nat) : D.leaf (.str b) = true := rfl
@[simp] theorem leaf_tup (b : List D) : D.leaf (.tup b) = true := rfl
@[simp] theorem eTupT_s (es : EL) : eTupT es (s0 :: q0) = (match es (s0 :: q0) with
  | none => none
  | some (rs, env1) => match moveAll rs env1 with
    | none => none
    | some (ds, env2) => if ds.length ≤ 16777216 then some (.tre (.tup ds), env2) else none) := Eq.trans rfl rfl
@[simp] theorem eLstT_s (es : EL) : eLstT es (s0 :: q0) = (match es (s0 :: q0) with
  | none => none
  | some (rs, env1) => match moveAll rs env1 with
    | none => none
    | some (ds, env2) => if ds.length ≤ 16777216 then some (.tre (.lst ds), env2) else none) := Eq.trans rfl rfl
@[simp] theorem isTre_s (i : Nat) : isTre (s0 :: q0) i = (match (s0 :: q0)[i]? with
  | some (.tre _) => true
  | _ => false) := Eq.trans rfl rfl
@[simp] theorem its_lst (ds : List D) : (D.lst ds).its = some ds := rfl
@[simp] theorem its_tup (ds : List D) : (D.tup ds).its = some ds := rfl
@[simp] theorem re_lst (ds es : List D) : (D.lst ds).re es = .lst es := rfl
@[simp] theorem re_tup (ds es : List D) : (D.tup ds).re es = .tup es := rfl
@[simp] theorem treAt_s (i : Nat) (k : Int) : treAt (s0 :: q0) i k = (match (s0 :: q0)[i]? with
  | some (.tre d) => match d.its with
    | none => none
    | some ds => match ixOf ds.length k with
      | none => none
      | some j => match ds[j]? with
        | some (.lst es) => some (d, ds, j, es)
        | _ => none
  | _ => none) := Eq.trans rfl rfl
@[simp] theorem eTake_s (i : Nat) (ix : E) : eTake i ix (s0 :: q0) = (if isTre (s0 :: q0) i = true then
    match ix (s0 :: q0) with
    | none => none
    | some (ri, env1) => match ri.peek env1 with
      | some (.int k) => match treAt env1 i k with
        | none => none
        | some (_, _, _, es) => some (.own (.lst es), env1.set i .un)
      | _ => none
  else none) := Eq.trans rfl rfl
@[simp] theorem eMutT_s (fm : D → List D → Option (D × RV)) (i : Nat) (ix : E) (es : EL) : eMutT fm i ix es (s0 :: q0) = (if isTre (s0 :: q0) i = true then
    match ix (s0 :: q0) with
    | none => none
    | some (ri, env1) => match ri.peek env1 with
      | some (.int k) => match treAt env1 i k with
        | none => none
        | some (d, ds, j, ls) => match es (env1.set i .un) with
          | none => none
          | some (rs, env2) => match freezeAll rs env2 with
            | none => none
            | some (as, env3) => match fm (.lst ls) as with
              | some (.lst ls', res) => match putSlot i (.tre (d.re (ds.set j (.lst ls')))) env3 with
                | none => none
                | some env4 => some (res, env4)
              | _ => none
      | _ => none
  else none) := Eq.trans rfl rfl
theorem ixOf_nat {n : Nat} {k : Nat} (h : k < n) : ixOf n (k : Int) = some k := by
  unfold ixOf
  rw [if_pos (by omega), if_pos (by omega)]; simp
@[simp] theorem ixOf_0 (n : Nat) : ixOf (n + 1) 0 = some 0 := ixOf_nat (k := 0) (by omega)
@[simp] theorem ixOf_1 (n : Nat) : ixOf (n + 2) 1 = some 1 := ixOf_nat (k := 1) (by omega)
@[simp] theorem ixOf_2 (n : Nat) : ixOf (n + 3) 2 = some 2 := ixOf_nat (k := 2) (by omega)
/-- a loop with an early exit whose state grows -/
theorem Run_forEx {α : Type} {it : I} {tg : Tg} {body : S} {env env1 : Env} {P : Out → Prop} (l : List α) (c : α → D) (Q : Nat → Env → Prop) (hit : it env = some (l.map c, env1)) (h0 : Q 0 env1)
    (hs : ∀ k (hk : k < l.length) e, Q k e → ∃ e1, tg.put (c l[k]) e = some e1 ∧ Run body e1 (fun o => (∃ e2, o = .nxt e2 ∧ Q (k + 1) e2) ∨ (isExit o ∧ P o)))
    (hP : ∀ e, Q l.length e → P (.nxt e)) : Run (sFor it tg body) env P := by
  have key : ∀ (l : List α) (Q : Nat → Env → Prop) (env : Env), Q 0 env → (∀ k (hk : k < l.length) e, Q k e → ∃ e1, tg.put (c l[k]) e = some e1 ∧ Run body e1 (fun o => (∃ e2, o = .nxt e2 ∧ Q (k + 1) e2) ∨ (isExit o ∧ P o))) →
      (∀ e, Q l.length e → P (.nxt e)) → ∃ o, forL tg body (l.map c) env = some o ∧ P o := by
    intro l
    induction l with
    | nil => intro Q env h0 _ hP; exact ⟨.nxt env, by simp [forL], hP env h0⟩
    | cons x l ih =>
      intro Q env h0 hs hP
      obtain ⟨e1, a, o, b, d⟩ := hs 0 (by simp) env h0
      simp only [List.getElem_cons_zero] at a
      rcases d with ⟨e2, rfl, d⟩ | ⟨d1, d2⟩
      · obtain ⟨o, y, z⟩ := ih (fun k => Q (k + 1)) e2 d (fun k hk e he => hs (k + 1) (by simp; omega) e he) hP
        exact ⟨o, by rw [List.map_cons, forL, a]; simp only [b]; exact y, z⟩
      · cases o with
        | ret r e => exact ⟨_, by rw [List.map_cons, forL, a]; simp only [b], d2⟩
        | exc c ds e => exact ⟨_, by rw [List.map_cons, forL, a]; simp only [b], d2⟩
        | _ => exact d1.elim
  obtain ⟨o, y, z⟩ := key l Q env1 h0 hs hP
  exact ⟨o, by simp only [sFor, hit, y], z⟩
/-- a comprehension whose items are drawn: each is some f w, with R w -/
theorem eLc_drG {α β : Type} (c : α → D) (f : β → D) (l : List α) (R : β → Prop) (Q Q' : Env → Prop) {it : I} {tg : Tg} {elt : E} {vs : List Nat} {env env1 : Env} (hit : it env = some (l.map c, env1)) (hw : wipeable vs env1 = true) (h0 : Q env1)
    (hs : ∀ x ∈ l, ∀ e, Q e → ∃ e1, tg.put (c x) (wipeE vs e) = some e1 ∧ ∃ r v e2 e3 e4, tTrue e1 = some (true, e2) ∧ elt e2 = some (r, e3) ∧ r.freeze e3 = some (f v, e4) ∧ R v ∧ Q e4)
    (hb : ∀ e, Q e → Q' (backE vs env1 e)) : ∃ m : List β, m.length = l.length ∧ (∀ x ∈ m, R x) ∧ ∃ e', eLc it tg tTrue elt vs env = some (.own (.lst (m.map f)), e') ∧ Q' e' := by
  have key : ∀ (l : List α) (acc : List D) (e : Env), (∀ x ∈ l, ∀ e, Q e → ∃ e1, tg.put (c x) (wipeE vs e) = some e1 ∧ ∃ r v e2 e3 e4, tTrue e1 = some (true, e2) ∧ elt e2 = some (r, e3) ∧ r.freeze e3 = some (f v, e4) ∧ R v ∧ Q e4) → Q e →
      ∃ m : List β, m.length = l.length ∧ (∀ x ∈ m, R x) ∧ ∃ e', lcL tg tTrue elt vs (l.map c) acc e = some (acc ++ m.map f, e') ∧ Q e' := by
    intro l
    induction l with
    | nil => exact fun acc e _ he => ⟨[], rfl, by simp, e, by simp [lcL], he⟩
    | cons x l ih =>
      intro acc e hs he
      obtain ⟨e1, a, r, v, e2, e3, e4, p, u, hf, hv, q⟩ := hs x (by simp) e he
      obtain ⟨m, u1, u2, e', w, z⟩ := ih (acc ++ [f v]) e4 (fun y hy => hs y (by simp [hy])) q
      exact ⟨v :: m, by simp [u1], fun y hy => by rcases List.mem_cons.1 hy with h | h; exact h ▸ hv; exact u2 y h, e', by simp only [List.map_cons, lcL, a, p, u, hf, w]; simp, z⟩
  obtain ⟨m, u1, u2, e', v, w⟩ := key l [] env1 hs h0
  exact ⟨m, u1, u2, _, by simp only [eLc, hit, hw, if_true, v, List.nil_append], hb _ w⟩
theorem dIn_signs (c : Nat) (l : List Nat) (f : List Nat → D) (hf : f = D.tup ∘ (fun l => l.map fun x => D.str [x]) ∨ f = D.lst ∘ (fun l => l.map fun x => D.str [x])) : dIn (.str [c]) (f l) = some (.fz (.bl (decide (c ∈ l)))) := by
  have h : (l.map fun x => D.str [x]).any (fun y => y.eqv (.str [c])) = decide (c ∈ l) := by
    rw [List.any_map, Bool.eq_iff_iff]
    simp [Function.comp]
  rcases hf with rfl | rfl
  · have hs : (l.map fun x => D.str [x]).all D.scal = true := by simp
    simp only [dIn, Function.comp, dInB, scal_str, hs, Bool.and_self, if_true, h]
  · have hs : shalL 39 (l.map fun x => D.str [x]) = true := by rw [shalL_all]; simp
    simp only [dIn, Function.comp, dInB, shal_str, hs, Bool.and_self, if_true, h]
end PV
end

section
set_option autoImplicit false
namespace LAW
open PV
theorem gives_eq {F : Fn} {as : List Arg} {r : Res} (h : Gives F as (fun x => x = r)) : F as = some r := by
  obtain ⟨x, a, rfl⟩ := h; exact a
def Drawn (m : Int) (e : Env) : Prop := ∃ ns p q s sl, 0 ≤ p ∧ 0 ≤ q ∧ 0 ≤ s ∧ s < 2147483647 ∧ e = [.io 0 (fd ns p q s), .fz (.int m), sl, .un, .un]
theorem Drawn.mk {m : Int} {ns : List Int} {p q s : Int} {sl : Slot} (hp : 0 ≤ p) (hq : 0 ≤ q) (hs : 0 ≤ s) (hs2 : s < 2147483647) : Drawn m [.io 0 (.lst [.lst (ns.map D.int), .int p, .int q, .int s]), .fz (.int m), sl, .un, .un] := ⟨ns, p, q, s, sl, hp, hq, hs, hs2, rfl⟩
theorem draw_ok {d : D} {m : Int} {P : Res → Prop} (h : Good d) (hm : 0 < m) (hm2 : m < 18446744073709551616)
    (hP : ∀ v d', Good d' → 0 ≤ v → v < m → P (.ok (.fz (.int v)) [d'])) : Gives F_l_draw [.io d, .fz (.int m)] P := by
  obtain ⟨ns, p, q, s, rfl, hp, hq, hs, hs2⟩ := h
  refine gives_of (Run.seq (Drawn m) ?_ ?_)
  · by_cases h1 : q = 0 ∧ p < (ns.length : Int)
    · obtain ⟨rfl, h1⟩ := h1
      have hx := List.getElem?_eq_getElem (l := ns) (i := p.toNat) (by omega)
      have hx2 : getAt (ns.map D.int) p = some (.int ns[p.toNat]) := getAt_at hp (by simp [hx])
      generalize ns[p.toNat] = x at hx2
      generalize hc : (if x < 0 then -x else x) = c
      have hc0 : 0 ≤ c := by split at hc <;> omega
      simp [fd, List.replicate, h1, hx2, hc, setL_1, setL_2, setL_3, dPow, dMul_r, dMod_int]
      split
      · exact .mk (by omega) hc0 hs hs2
      · exact .mk (by omega) (by omega) (Int.emod_nonneg _ (by omega)) (Int.emod_lt_of_pos _ (by omega))
    · have h2 : (decide (q = 0) && decide (p < (ns.length : Int))) = false := by simpa using h1
      simp [fd, List.replicate, h1]
      exact .mk hp hq hs hs2
  · rintro e ⟨ns, p', q', s', sl, hp, hq, hs, hs2, rfl⟩
    by_cases h1 : 0 < q'
    · simp [fd, h1, dMod_int, hm, dDiv_int, hm2, setL_2]
      exact hP _ _ ⟨_, _, _, _, rfl, hp, Int.ediv_nonneg hq (by omega), hs, hs2⟩ (Int.emod_nonneg _ (by omega)) (Int.emod_lt_of_pos _ hm)
    · have hm' : mulOk ((s' * 16807 + 12345) % 2147483647) ((s' * 16807 + 12345) % 2147483647) = true := mulOk_r _ (by omega) (by omega)
      simp [fd, h1, dMod_int, hm, dDiv_int, hm2, setL_3, dMul_r, dMul_int, hm']
      exact hP _ _ ⟨_, _, _, _, rfl, hp, hq, by omega, by omega⟩ (Int.emod_nonneg _ (by omega)) (Int.emod_lt_of_pos _ hm)
theorem draw_nat {d : D} {m : Nat} (h : Good d) (hm : 0 < m) (hm2 : m < 4294967296) :
    ∃ (v : Nat) (d' : D), F_l_draw [.io d, .fz (.int m)] = some (.ok (.fz (.int v)) [d']) ∧ Good d' ∧ v < m := by
  obtain ⟨r, a, v, d', rfl, b, c, e⟩ := draw_ok (P := fun r => ∃ v d', r = .ok (.fz (.int v)) [d'] ∧ Good d' ∧ 0 ≤ v ∧ v < m) h (m := (m : Int)) (by omega) (by omega) (fun v d' a b c => ⟨v, d', rfl, a, b, c⟩)
  refine ⟨v.toNat, d', ?_, b, by omega⟩
  rw [a, Int.toNat_of_nonneg c]
theorem feed_ok (ns : List Int) : ∃ d, F_l_feed [.fz (.scr ns)] = some (.ok (.own d) []) ∧ Good d := by
  refine ⟨fd ns 0 0 1, ?_, ns, 0, 0, 1, rfl, by omega⟩
  simp [F_l_feed, g_l_feed, fd]
theorem dk {d : D} (g : Good d) (m : Nat) (hm : 0 < m) (hm2 : m < 4294967296) : ∃ (v : Nat) (d' : D), F_l_draw [.io d, .fz (.int m)] = some (.ok (.fz (.int v)) [d']) ∧ Good d' ∧ v < m := draw_nat g hm hm2
theorem dkl {d : D} (g : Good d) (m : Nat) [OfNat Int m] (e : ((m : Nat) : Int) = OfNat.ofNat m) (hm : 0 < m) (hm2 : m < 4294967296) : ∃ (v : Nat) (d' : D), F_l_draw [.io d, .fz (.int (OfNat.ofNat m))] = some (.ok (.fz (.int v)) [d']) ∧ Good d' ∧ v < m := by
  rw [← e]; exact draw_nat g hm hm2
theorem l_is_whole_ok {d : D} (h : Pl d) : F_l_is_whole [.fz d] = some (.ok (.fz (.bl (isW d))) []) := by
  cases hd : d <;> subst hd <;> first | rfl | (obtain ⟨n, _, h⟩ := h; cases n <;> cases h)
end LAW
end

section
set_option autoImplicit false
namespace LAW
open PV
def isL2 (c : Nat) : Bool := decide (c = 119 ∨ c = 108)
def mrow (r : List Nat) : Bool := decide (1 ≤ r.length ∧ r.length ≤ 8) && r.all isL2
theorem sgn2 (c : Nat) : dIn (.str [c]) (.tup [.str [119], .str [108]]) = some (.fz (.bl (isL2 c))) := by
  have := dIn_signs c [119, 108] _ (.inl rfl)
  simpa [Function.comp, isL2] using this
theorem sgn2n (c : Nat) : dNotIn (.str [c]) (.lst [.str [119], .str [108]]) = some (.fz (.bl (!isL2 c))) := by
  have := dIn_signs c [119, 108] _ (.inr rfl)
  unfold dIn at this
  unfold dNotIn
  split at this
  · rename_i b hb
    have hb : dInB (.str [c]) (.lst [.str [119], .str [108]]) = some b := hb
    rw [hb]
    simp only [Option.some.injEq, RV.fz.injEq, D.bl.injEq] at this
    subst this
    simp [isL2]
  · cases this
theorem mrow_ok {r : List Nat} (h : r.length ≤ 1000) : F_is_meeting_row [.fz (.str r)] = some (.ok (.fz (.bl (mrow r))) []) := by
  have hc : c0_is_meeting_row [.fz (.str r), .un] = some (.own (.lst (r.map fun c => D.bl (isL2 c))), [.fz (.str r), .un]) := by
    unfold c0_is_meeting_row
    rw [eLc_nm (fun _ => true) (fun c => D.bl (isL2 c)) (fun c => D.str [c]) r]
    · rw [filter_tt]
    · simp
    · simp
    · intro x _; simp
    · intro x _ _; simp [sgn2]
  by_cases h1 : 1 ≤ r.length
  · by_cases h2 : r.length ≤ 8
    · simp [F_is_meeting_row, g_is_meeting_row, hc, mrow, h1, h2, dAllV]
      intro _; omega
    · have c1 : ¬ ((1 : Int) ≤ (r.length : Int) ∧ (r.length : Int) ≤ 8) := by omega
      simp [F_is_meeting_row, g_is_meeting_row, hc, mrow, h1, h2, c1]
  · have c1 : ¬ ((1 : Int) ≤ (r.length : Int) ∧ (r.length : Int) ≤ 8) := by omega
    simp [F_is_meeting_row, g_is_meeting_row, hc, mrow, h1, c1]
theorem map_getDS (rows : List (List Nat)) : (List.range rows.length).map (fun i => D.str (rows.getD i [])) = rows.map D.str := by
  apply List.ext_getElem
  · simp
  · intro i h1 h2
    simp at h1
    simp [h1]
def badRow (rows : List (List Nat)) (i : Nat) : Bool := !mrow (rows.getD i []) || decide ((rows.getD i []).length ≠ (rows.getD 0 []).length)
def fault (rows : List (List Nat)) : Option Int :=
  if 1 ≤ rows.length ∧ rows.length ≤ 8 then ((List.range rows.length).find? (badRow rows)).map fun i => (i : Int) else some (-1)
def fD : Option Int → D
  | none => .non
  | some i => .int i
/-- rows that are not too long -/
def Rows (rows : List (List Nat)) : Prop := rows.length ≤ 100 ∧ ∀ r ∈ rows, r.length ≤ 100
theorem Rows.at {rows : List (List Nat)} (h : Rows rows) (i : Nat) : (rows.getD i []).length ≤ 100 := by
  by_cases hi : i < rows.length
  · have : rows.getD i [] = rows[i] := by simp [hi]
    rw [this]; exact h.2 _ (List.getElem_mem hi)
  · have : rows.getD i [] = [] := by simp [Nat.not_lt.mp hi]
    rw [this]; simp
theorem enum_txs (rows : List (List Nat)) : enumL 0 (rows.map D.str) = (List.range rows.length).map fun i => D.tup [nat i, .str (rows.getD i [])] := by
  have := enumL_range (fun i => D.str (rows.getD i [])) rows.length
  rw [map_getDS] at this
  exact this
theorem find_first {p : Nat → Bool} {n k : Nat} (hk : k < n) (h1 : ∀ j, j < k → p j = false) (h2 : p k = true) : (List.range n).find? p = some k := by
  rw [List.find?_range_eq_some]
  exact ⟨h2, by simpa using hk, fun j hj => by simp [h1 j hj]⟩
theorem find_none {p : Nat → Bool} {n : Nat} (h : ∀ k, k < n → p k = false) : (List.range n).find? p = none := by
  rw [List.find?_eq_none]
  intro x hx
  simp [h x (List.mem_range.mp hx)]
def ckR : Option Int → Res
  | none => .ok (.fz .non) []
  | some k => .exc 0 [.int k] []
theorem check_ok {rows : List (List Nat)} (h : Rows rows) : F_check_meeting [.fz (txs rows)] = some (ckR (fault rows)) := by
  refine gives_eq (gives_of ?_)
  have hlen := h.1
  have hen := enum_txs rows
  simp only [g_check_meeting, List.replicate, argSlots_io, argSlots_fz, argSlots_nil, List.append, List.cons_append, List.nil_append, List.length_cons, List.length_nil, Nat.sub_zero, Nat.reduceSub, Nat.reduceAdd]
  by_cases hl : 1 ≤ rows.length ∧ rows.length ≤ 8
  · have hl' : (1 : Int) ≤ (rows.length : Int) ∧ (rows.length : Int) ≤ 8 := by omega
    refine rseq (fun e => e = [.fz (txs rows), .un, .un]) (by simp [hl']) fun e he => ?_
    subst he
    unfold o0_check_meeting
    have h0 : ∃ r0, getAt (rows.map D.str) 0 = some (.str r0) ∧ r0 = rows.getD 0 [] := ⟨_, by rw [show (0 : Int) = ((0 : Nat) : Int) from rfl]; exact getAt_txs (by omega), rfl⟩
    obtain ⟨r0, h0, h0e⟩ := h0
    refine Run_forFind (List.range rows.length) (fun i => D.tup [nat i, .str (rows.getD i [])]) (badRow rows) (fun e => ∃ s1 s2, lp s1 ∧ lp s2 ∧ e = [.fz (txs rows), s1, s2]) ?_ ⟨_, _, lp_un, lp_un, rfl⟩ ?_ ?_
    · simp [txs, hen, -List.getD_eq_getElem?_getD]
    · rintro k hk hj e ⟨s1, s2, h1, h2, rfl⟩
      refine ⟨[.fz (txs rows), .fz (nat k), .fz (.str (rows.getD k []))], ?_, ?_⟩
      · simp [put1_free h1.free, put1_free h2.free, -List.getD_eq_getElem?_getD]
      · have hm := mrow_ok (r := rows.getD k []) (by have := h.at k; omega)
        have hb : badRow rows k = (!mrow (rows.getD k []) || decide ((rows.getD k []).length ≠ (rows.getD 0 []).length)) := rfl
        rw [← h0e] at hb
        generalize rows.getD k [] = rk at *
        have hkl : k < rows.length := by simpa using hk
        have hf : badRow rows k = true → fault rows = some (k : Int) := fun hbk => by
          unfold fault
          rw [if_pos hl, find_first hkl hj hbk]; rfl
        unfold b0_check_meeting
        cases hm1 : mrow rk with
        | false =>
          rw [hm1] at hb
          simp only [Bool.not_false, Bool.true_or] at hb
          have := hf hb
          simp [hm, hm1, hb, this, ckR, handsBack, nat]
        | true =>
          rw [hm1] at hb
          by_cases he : rk.length = r0.length
          · have hb' : badRow rows k = false := by rw [hb]; simp [he]
            simp [hm, hm1, hb', txs, h0, he]
            exact ⟨lp_fz _, lp_fz _⟩
          · have hb' : badRow rows k = true := by rw [hb]; simp [he]
            have := hf hb'
            simp [hm, hm1, hb', txs, h0, he, this, ckR, handsBack, nat]
    · rintro hN e ⟨s1, s2, h1, h2, rfl⟩
      have : fault rows = none := by
        unfold fault
        rw [if_pos hl, find_none (by simpa using hN)]; rfl
      simp [this, ckR, handsBack]
  · have hl' : ¬ ((1 : Int) ≤ (rows.length : Int) ∧ (rows.length : Int) ≤ 8) := by omega
    have : fault rows = some (-1) := by unfold fault; rw [if_neg hl]
    simp [hl', this, ckR, handsBack]
theorem l_fault_ok {rows : List (List Nat)} (h : Rows rows) : F_l_fault [.fz (txs rows)] = some (.ok (.fz (fD (fault rows))) []) := by
  refine gives_eq (gives_of ?_)
  have hlen := h.1
  simp only [g_l_fault, List.replicate, argSlots_io, argSlots_fz, argSlots_nil, List.append, List.cons_append, List.nil_append, List.length_cons, List.length_nil, Nat.sub_zero, Nat.reduceSub, Nat.reduceAdd]
  by_cases hl : 1 ≤ rows.length ∧ rows.length ≤ 8
  · have hl' : (1 : Int) ≤ (rows.length : Int) ∧ (rows.length : Int) ≤ 8 := by omega
    refine rseq (fun e => e = [.fz (txs rows), .un, .un]) (by simp [hl']) fun e he => ?_
    subst he
    unfold o0_l_fault
    have h0 : ∃ r0, getAt (rows.map D.str) 0 = some (.str r0) ∧ r0 = rows.getD 0 [] := ⟨_, by rw [show (0 : Int) = ((0 : Nat) : Int) from rfl]; exact getAt_txs (by omega), rfl⟩
    obtain ⟨r0, h0, h0e⟩ := h0
    refine (Run_seq _ _ _ _).2 ?_
    refine Run_forFind (List.range rows.length) nat (badRow rows) (fun e => ∃ s1, lp s1 ∧ e = [.fz (txs rows), s1, .un]) ?_ ⟨_, lp_un, rfl⟩ ?_ ?_
    · have := rngN (n := rows.length) (by omega) [.fz (txs rows), .un, .un]
      simp only [iRange1_s]
      simp
      exact this
    · rintro k hk hj e ⟨s1, h1, rfl⟩
      refine ⟨[.fz (txs rows), .fz (nat k), .un], ?_, ?_⟩
      · simp [put1_free h1.free]
      · have hkl : k < rows.length := by simpa using hk
        have hm : (rows.getD k []).length ≤ 1000 := by have := h.at k; omega
        have hb : badRow rows k = (!mrow (rows.getD k []) || decide ((rows.getD k []).length ≠ (rows.getD 0 []).length)) := rfl
        have hk' := getAt_txs hkl
        rw [← h0e] at hb
        generalize rows.getD k [] = rk at *
        have hf : badRow rows k = true → fault rows = some (k : Int) := fun hbk => by
          unfold fault
          rw [if_pos hl, find_first hkl hj hbk]; rfl
        have hc : c0_l_fault [.fz (txs rows), .fz (nat k), .un] = some (.own (.lst ((rk.filter fun c => !isL2 c).map fun c => D.str [c])), [.fz (txs rows), .fz (nat k), .un]) := by
          unfold c0_l_fault
          rw [eLc_nm (fun c => !isL2 c) (fun c => D.str [c]) (fun c => D.str [c]) rk]
          · simp [nat, txs, hk']
          · simp
          · intro x _; simp [sgn2n]
          · intro x _ _; simp
        have hall : ((rk.filter fun c => !isL2 c).length = 0) ↔ rk.all isL2 = true := by
          rw [List.length_eq_zero_iff, List.filter_eq_nil_iff, List.all_eq_true]
          simp
        have hm1 : mrow rk = (decide (1 ≤ rk.length ∧ rk.length ≤ 8) && rk.all isL2) := rfl
        unfold b0_l_fault
        by_cases q1 : 1 ≤ rk.length ∧ rk.length ≤ 8
        · have q1' : (1 : Int) ≤ (rk.length : Int) ∧ (rk.length : Int) ≤ 8 := by omega
          by_cases q2 : rk.length = r0.length
          · refine rseq (fun e => e = [.fz (txs rows), .fz (nat k), .un]) (by simp [nat, txs, hk', h0, ← q2, q1']) fun e he => ?_
            subst he
            by_cases q3 : rk.all isL2 = true
            · have hb' : badRow rows k = false := by rw [hb, hm1]; simp [q3, ← q2, q1]
              have q4 := hall.2 q3
              simp [hc, q4, hb']
              exact lp_fz _
            · have hb' : badRow rows k = true := by rw [hb, hm1]; simp [q3]
              have q4 : ¬ ((rk.filter fun c => !isL2 c).length = 0) := fun z => q3 (hall.1 z)
              have := hf hb'
              have q5 : 0 < (rk.filter fun c => !isL2 c).length := Nat.pos_of_ne_zero q4
              generalize hfl : (rk.filter fun c => !isL2 c) = fl at *
              simp [hc, hb', this, fD, handsBack, q5]
              rfl
          · have hb' : badRow rows k = true := by rw [hb]; simp [q2]
            have := hf hb'
            have q2' : ¬ ((rk.length : Int) = (r0.length : Int)) := by omega
            refine (Run_seq _ _ _ _).2 ?_
            simp [nat, txs, hk', h0, q1', q2, hb', this, fD, handsBack]
        · have hb' : badRow rows k = true := by rw [hb, hm1]; simp only [q1, decide_false, Bool.false_and, Bool.not_false, Bool.true_or]
          have := hf hb'
          have q1' : ¬ ((1 : Int) ≤ (rk.length : Int) ∧ (rk.length : Int) ≤ 8) := by omega
          refine (Run_seq _ _ _ _).2 ?_
          simp [nat, txs, hk', h0, q1', hb', this, fD, handsBack]
    · rintro hN e ⟨s1, h1, rfl⟩
      have : fault rows = none := by
        unfold fault
        rw [if_pos hl, find_none (by simpa using hN)]; rfl
      simp [this, fD, handsBack]
  · have hl' : ¬ ((1 : Int) ≤ (rows.length : Int) ∧ (rows.length : Int) ≤ 8) := by omega
    have : fault rows = some (-1) := by unfold fault; rw [if_neg hl]
    simp [hl', this, fD, handsBack]
end LAW
end

section
set_option autoImplicit false
namespace LAW
open PV
/-- rows that are all of one length -/
structure Eqr (rows : List (List Nat)) (m : Nat) : Prop where
  ne : 1 ≤ rows.length
  le : rows.length ≤ 100
  row : ∀ r ∈ rows, r.length = m
  m1 : m ≤ 100
def fst (rows : List (List Nat)) : List Nat := rows.map fun r => r.count 119
def cnt (rows : List (List Nat)) (k : Nat) : Nat := (rows.filter fun r => decide (r.getD k 0 = 108)).length
def snd (rows : List (List Nat)) (m : Nat) : List Nat := (List.range m).map (cnt rows)
def winD (rows : List (List Nat)) (m : Nat) : D := .tup [.lst ((fst rows).map nat), .lst ((snd rows m).map nat)]
theorem Eqr.first {rows : List (List Nat)} {m : Nat} (h : Eqr rows m) : ∃ r0, getAt (rows.map D.str) 0 = some (.str r0) ∧ r0.length = m := by
  have hne := h.ne
  refine ⟨rows.getD 0 [], by rw [show (0 : Int) = ((0 : Nat) : Int) from rfl]; exact getAt_txs (by omega), ?_⟩
  have : rows.getD 0 [] = rows[0] := by simp [show 0 < rows.length by omega]
  rw [this]; exact h.row _ (List.getElem_mem _)
theorem wins_ok {rows : List (List Nat)} {m : Nat} (h : Eqr rows m) : F_wins_of_both [.fz (txs rows)] = some (.ok (.tre (winD rows m)) []) := by
  refine gives_eq (gives_of ?_)
  obtain ⟨r0, h0, hm⟩ := h.first
  have hml := h.m1
  have hl := h.le
  simp only [g_wins_of_both, List.replicate, argSlots_io, argSlots_fz, argSlots_nil, List.append, List.cons_append, List.nil_append, List.length_cons, List.length_nil, Nat.sub_zero, Nat.reduceSub, Nat.reduceAdd]
  have hc0 : c0_wins_of_both [.fz (txs rows), .un, .un, .un, .un] = some (.own (.lst ((fst rows).map nat)), [.fz (txs rows), .un, .un, .un, .un]) := by
    unfold c0_wins_of_both
    rw [eLc_nm (fun _ => true) (fun r => nat (r.count 119)) D.str rows]
    · rw [filter_tt, fst, List.map_map]; rfl
    · simp [txs]
    · simp
    · intro x _; simp
    · intro x _ _; simp
  refine rseq (fun e => e = [.fz (txs rows), .own (.lst ((fst rows).map nat)), .un, .un, .un]) (by simp [hc0]) fun e he => ?_
  subst he
  have hc1 : ∀ k, k < m → c1_wins_of_both [.fz (txs rows), .own (.lst ((fst rows).map nat)), .un, .un, .fz (nat k)] = some (.own (.lst ((rows.filter fun r => decide (r.getD k 0 = 108)).map D.str)), [.fz (txs rows), .own (.lst ((fst rows).map nat)), .un, .un, .fz (nat k)]) := by
    intro k hk
    unfold c1_wins_of_both
    rw [eLc_nm (fun r => decide (r.getD k 0 = 108)) D.str D.str rows]
    · simp [txs]
    · simp
    · intro x hx
      have := dIdx_sg (l := x) (i := k) (by rw [h.row x hx]; exact hk)
      have e : dIdx (.str x) (nat k) = some (.fz (.str [x.getD k 0])) := this
      generalize x.getD k 0 = y at *
      simp [e]
    · intro x _ _; simp
  have hc2 : c2_wins_of_both [.fz (txs rows), .own (.lst ((fst rows).map nat)), .un, .un, .un] = some (.own (.lst ((snd rows m).map nat)), [.fz (txs rows), .own (.lst ((fst rows).map nat)), .un, .un, .un]) := by
    unfold c2_wins_of_both
    rw [eLc_nm (fun _ => true) (fun k => nat (cnt rows k)) nat (List.range m)]
    · rw [filter_tt, snd, List.map_map]; rfl
    · have := rngN (n := m) (by omega) [.fz (txs rows), .own (.lst ((fst rows).map nat)), .un, .un, .un]
      generalize (fst rows).map nat = A at *
      simp [txs, h0, hm]
      exact this
    · simp
    · intro k hk; simp
    · intro k hk _
      have := hc1 k (List.mem_range.mp hk)
      have hcc : cnt rows k = (rows.filter fun r => decide (r.getD k 0 = 108)).length := rfl
      rw [hcc]
      generalize (rows.filter fun r => decide (r.getD k 0 = 108)) = B at *
      generalize (fst rows).map nat = A at *
      simp [this]
      rfl
  have hA : ((fst rows).map nat).length = rows.length := by simp [fst]
  have hwin : winD rows m = .tup [.lst ((fst rows).map nat), .lst ((snd rows m).map nat)] := rfl
  rw [hwin]
  generalize (fst rows).map nat = A at *
  generalize (snd rows m).map nat = B at *
  refine rseq (fun e => e = [.fz (txs rows), .own (.lst A), .un, .own (.lst B), .un]) (by simp [hc2]) fun e he => ?_
  subst he
  simp [handsBack]
theorem cnt_succ {rows : List (List Nat)} {i k : Nat} (hi : i < rows.length) : cnt (rows.take (i + 1)) k = cnt (rows.take i) k + (if rows[i].getD k 0 = 108 then 1 else 0) := by
  unfold cnt
  rw [List.take_succ_eq_append_getElem hi, List.filter_append, List.length_append]
  by_cases h : rows[i].getD k 0 = 108 <;> simp [List.filter_cons, h, -List.getD_eq_getElem?_getD]
def cv (rows : List (List Nat)) (i : Nat) (k : Nat) : Int := (cnt (rows.take i) k : Nat)
theorem l_wins_ok {rows : List (List Nat)} {m : Nat} (h : Eqr rows m) : F_l_wins [.fz (txs rows)] = some (.ok (.fz (winD rows m)) []) := by
  refine gives_eq (gives_of ?_)
  obtain ⟨r0, h0, hm⟩ := h.first
  have hml := h.m1
  have hl := h.le
  simp only [g_l_wins, List.replicate, argSlots_io, argSlots_fz, argSlots_nil, List.append, List.cons_append, List.nil_append, List.length_cons, List.length_nil, Nat.sub_zero, Nat.reduceSub, Nat.reduceAdd]
  have hc1 : c1_l_wins [.fz (txs rows), .un, .un, .un, .un, .un] = some (.own (.lst ((fst rows).map nat)), [.fz (txs rows), .un, .un, .un, .un, .un]) := by
    unfold c1_l_wins
    rw [eLc_nm (fun _ => true) (fun r => nat (r.count 119)) D.str rows]
    · rw [filter_tt, fst, List.map_map]; rfl
    · simp [txs]
    · simp
    · intro x _; simp
    · intro x _ _
      have hc0 : c0_l_wins [.fz (txs rows), .un, .un, .fz (.str x), .un, .un] = some (.own (.lst ((x.filter fun c => decide (c = 119)).map fun c => D.str [c])), [.fz (txs rows), .un, .un, .fz (.str x), .un, .un]) := by
        unfold c0_l_wins
        rw [eLc_nm (fun c => decide (c = 119)) (fun c => D.str [c]) (fun c => D.str [c]) x]
        · simp
        · simp
        · intro y _; simp
        · intro y _ _; simp
      have hcl : x.count 119 = (x.filter fun c => decide (c = 119)).length := by
        rw [List.count_eq_length_filter]; rfl
      rw [hcl]
      generalize (x.filter fun c => decide (c = 119)) = B at *
      simp [hc0, nat]
  generalize hAe : (fst rows).map nat = A at *
  refine rseq (fun e => e = [.fz (txs rows), .own (.lst A), .un, .un, .un, .un]) (by simp [hc1]) fun e he => ?_
  subst he
  have hz : dMul (.lst [.int 0]) (.int (m : Nat)) = some (.own (vec m fun _ => 0)) := by
    simp only [dMul, List.length_cons, List.length_nil, Int.toNat_natCast]
    rw [if_pos ⟨by simp; omega, by simp [big]; omega⟩]
    simp only [vec, vecL]
    congr 3
    apply List.ext_getElem
    · simp
    · intro i h1 h2; simp
  have hlen0 : dLen [.str r0] = some (.fz (.int (m : Nat))) := by simp [hm]
  refine rseq (fun e => e = [.fz (txs rows), .own (.lst A), .un, .un, .own (vec m fun _ => 0), .un]) (by simp [txs, h0, hm, hz]) fun e he => ?_
  subst he
  refine rseq (fun e => ∃ s3 s5, lp s3 ∧ lp s5 ∧ e = [.fz (txs rows), .own (.lst A), .un, s3, .own (vec m (cv rows rows.length)), s5]) ?_ ?_
  · unfold o1_l_wins
    refine Run_forGo rows D.str (fun i e => ∃ s3 s5, lp s3 ∧ lp s5 ∧ e = [.fz (txs rows), .own (.lst A), .un, s3, .own (vec m (cv rows i)), s5]) (env1 := [.fz (txs rows), .own (.lst A), .un, .un, .own (vec m fun _ => 0), .un]) ?_ ⟨_, _, lp_un, lp_un, by simp [cv, cnt]; rfl⟩ ?_ (fun e he => he)
    · simp [txs]
    · rintro i hi e ⟨s3, s5, h3, h5, rfl⟩
      have hri : rows[i].length = m := h.row _ (List.getElem_mem _)
      have hcs : ∀ k, cv rows (i + 1) k = cv rows i k + (if rows[i].getD k 0 = 108 then 1 else 0) := fun k => by
        unfold cv; rw [cnt_succ hi]; split <;> simp
      generalize rows[i] = ri at *
      refine ⟨[.fz (txs rows), .own (.lst A), .un, .fz (.str ri), .own (vec m (cv rows i)), s5], by simp [put1_free h3.free], ?_⟩
      unfold b1_l_wins o0_l_wins
      refine Run_forGo (List.range m) nat (fun j e => ∃ s5, lp s5 ∧ e = [.fz (txs rows), .own (.lst A), .un, .fz (.str ri), .own (vec m fun k => if k < j then cv rows (i + 1) k else cv rows i k), s5]) (env1 := [.fz (txs rows), .own (.lst A), .un, .fz (.str ri), .own (vec m (cv rows i)), s5]) ?_ ⟨_, h5, by simp⟩ ?_ ?_
      · have := rngN (n := m) (by omega) [.fz (txs rows), .own (.lst A), .un, .fz (.str ri), .own (vec m (cv rows i)), s5]
        simp [hri]; exact this
      · rintro j hj e ⟨s5, h5, rfl⟩
        have hjm : j < m := by simpa using hj
        refine ⟨[.fz (txs rows), .own (.lst A), .un, .fz (.str ri), .own (vec m fun k => if k < j then cv rows (i + 1) k else cv rows i k), .fz (nat j)], by simp [put1_free h5.free], ?_⟩
        have hx : dIdx (.str ri) (nat j) = some (.fz (.str [ri.getD j 0])) := dIdx_sg (by omega)
        have hg : getL (vec m fun k => if k < j then cv rows (i + 1) k else cv rows i k) (nat j) = some (.int (cv rows i j)) := by
          have := getL_vec (n := m) (k := j) (f := fun k => if k < j then cv rows (i + 1) k else cv rows i k) hjm
          rw [if_neg (Nat.lt_irrefl j)] at this
          exact this
        have hs : setL (vec m fun k => if k < j then cv rows (i + 1) k else cv rows i k) (nat j) (.int (cv rows i j + 1)) = some (vec m fun k => if k = j then cv rows i j + 1 else if k < j then cv rows (i + 1) k else cv rows i k) := setL_vec hjm
        have e1 : ∀ v, (v = cv rows (i + 1) j) → (vec m fun k => if k = j then v else if k < j then cv rows (i + 1) k else cv rows i k) = vec m fun k => if k < j + 1 then cv rows (i + 1) k else cv rows i k := fun v hv => vec_congr fun k hk => by
          by_cases q : k = j
          · subst q; simp [hv]
          · by_cases q2 : k < j
            · simp [q, q2, show k < j + 1 by omega]
            · simp [q, q2, show ¬ k < j + 1 by omega]
        have hcj := hcs j
        unfold b0_l_wins
        by_cases q : ri.getD j 0 = 108
        · rw [if_pos q] at hcj
          rw [e1 _ hcj.symm] at hs
          rw [q] at hx
          generalize (vec m fun k => if k < j then cv rows (i + 1) k else cv rows i k) = V at *
          generalize (vec m fun k => if k < j + 1 then cv rows (i + 1) k else cv rows i k) = V' at *
          simp [hx, hg, hs]
          exact lp_fz _
        · rw [if_neg q] at hcj
          have e2 : (vec m fun k => if k < j then cv rows (i + 1) k else cv rows i k) = vec m fun k => if k < j + 1 then cv rows (i + 1) k else cv rows i k := vec_congr fun k hk => by
            by_cases q1 : k = j
            · subst q1; simp [hcj]
            · by_cases q2 : k < j
              · simp [q2, show k < j + 1 by omega]
              · simp [q2, show ¬ k < j + 1 by omega]
          rw [e2]
          generalize ri.getD j 0 = y at *
          generalize (vec m fun k => if k < j + 1 then cv rows (i + 1) k else cv rows i k) = V' at *
          simp [hx, q]
          exact lp_fz _
      · rintro e ⟨s5, h5, rfl⟩
        have e3 : (vec m fun k => if k < (List.range m).length then cv rows (i + 1) k else cv rows i k) = vec m (cv rows (i + 1)) := vec_congr fun k hk => by simp [hk]
        rw [e3]
        exact ⟨_, _, lp_fz _, h5, rfl⟩
  · rintro e ⟨s3, s5, h3, h5, rfl⟩
    have e4 : vec m (cv rows rows.length) = .lst ((snd rows m).map nat) := by
      simp only [vec, vecL, snd, List.map_map]
      congr 1
      apply List.map_congr_left
      intro k _
      simp [cv, nat]
    have hwin : winD rows m = .tup [.lst A, .lst ((snd rows m).map nat)] := by rw [← hAe]; rfl
    rw [e4, hwin]
    generalize (snd rows m).map nat = B at *
    simp [handsBack]
end LAW
end

section
set_option autoImplicit false
namespace LAW
open PV
theorem eqvL_rf {xs : List D} (h : ∀ x ∈ xs, D.eqv x x = true) : eqvL xs xs = true := by
  induction xs with
  | nil => rfl
  | cons x xs ih => rw [eqvL_cons, h x (by simp), ih fun y hy => h y (by simp [hy])]; rfl
theorem eqv_shal : ∀ (n : Nat) (d : D), D.shal n d = true → D.eqv d d = true := by
  intro n
  induction n with
  | zero => intro d h; cases d <;> first | rfl | (cases h; done) | simp
  | succ n ih =>
    intro d h
    cases d with
    | lst xs =>
      rw [shal_lst, shalL_all, List.all_eq_true] at h
      exact eqvL_rf fun x hx => ih x (h x hx)
    | tup xs =>
      rw [shal_tup, shalL_all, List.all_eq_true] at h
      exact eqvL_rf fun x hx => ih x (h x hx)
    | dic _ _ => cases h
    | scr _ => cases h
    | non => rfl
    | _ => simp
theorem dEq_rfl {d : D} (h : Pl d) : dEq d d = some (.fz (.bl true)) := by rw [dEq_pl h h, eqv_shal 40 d h.forty]
theorem dNe_rfl {d : D} (h : Pl d) : dNe d d = some (.fz (.bl false)) := by rw [dNe_pl h h, eqv_shal 40 d h.forty]; rfl
theorem Pl_win (rows : List (List Nat)) (m : Nat) : Pl (winD rows m) := .of (n := 2) (by
  rw [winD, shal_tup]
  simp [shalL_nats])
theorem l_checked_ok {rows : List (List Nat)} (h : Rows rows) : F_l_checked [.fz (txs rows)] = some (.ok (.fz (.bl true)) []) := by
  refine gives_eq (gives_of ?_)
  have x1 := check_ok h
  have x2 := l_fault_ok h
  simp only [g_l_checked, List.replicate, argSlots_io, argSlots_fz, argSlots_nil, List.append, List.cons_append, List.nil_append, List.length_cons, List.length_nil, Nat.sub_zero, Nat.reduceSub, Nat.reduceAdd]
  refine rseq (fun e => e = [.fz (txs rows), .own (txs rows), .un, .un, .un]) (by simp) fun e he => ?_
  subst he
  generalize fault rows = f at *
  refine rseq (fun e => e = [.fz (txs rows), .own (txs rows), .fz (fD f), .un, .un]) (by cases f <;> simp [x2, fD]) fun e he => ?_
  subst he
  have q := dEq_txs rows rows
  cases f with
  | none =>
    simp [Run, sTry, sSetO, noEx, exitEx, put1, x1, ckR, fD, q, dIsN, isNon, handsBack]
  | some k =>
    have hw := l_is_whole_ok (Pl_int k)
    simp [Run, sTry, sSetO, noEx, exitEx, eExF, eExIs, put1, x1, ckR, fD, q, dNotN, isNon, handsBack, hw]
theorem l_counted_ok {rows : List (List Nat)} {m : Nat} (h : Eqr rows m) : F_l_counted [.fz (txs rows)] = some (.ok (.fz (.bl true)) []) := by
  refine gives_eq (gives_of ?_)
  have x1 := wins_ok h
  have x2 := l_wins_ok h
  obtain ⟨r0, h0, hm⟩ := h.first
  have hml := h.m1
  have hl := h.le
  have q := dNe_txs rows rows
  have q2 := dNe_rfl (Pl_win rows m)
  have q3 := dEq_rfl (Pl_win rows m)
  simp only [g_l_counted, List.replicate, argSlots_io, argSlots_fz, argSlots_nil, List.append, List.cons_append, List.nil_append, List.length_cons, List.length_nil, Nat.sub_zero, Nat.reduceSub, Nat.reduceAdd]
  refine rseq (fun e => e = [.fz (txs rows), .own (txs rows), .un, .un, .un]) (by simp) fun e he => ?_
  subst he
  refine rseq (fun e => e = [.fz (txs rows), .fz (txs rows), .tre (winD rows m), .un, .un]) (by simp [x1]) fun e he => ?_
  subst he
  have ty : dIsi .tuple (winD rows m) = some (.fz (.bl true)) := rfl
  refine rseq (fun e => e = [.fz (txs rows), .fz (txs rows), .tre (winD rows m), .un, .un]) (by simp [q, ty, x2, q2]) fun e he => ?_
  subst he
  have hwin : winD rows m = .tup [.lst ((fst rows).map nat), .lst ((snd rows m).map nat)] := rfl
  have hc : c0_l_counted [.fz (txs rows), .fz (txs rows), .fz (winD rows m), .un, .un] = some (.own (.lst ((fst rows ++ snd rows m).map nat)), [.fz (txs rows), .fz (txs rows), .fz (winD rows m), .un, .un]) := by
    unfold c0_l_counted
    have hadd : dAdd (.lst ((fst rows).map nat)) (.lst ((snd rows m).map nat)) = some (.own (.lst ((fst rows ++ snd rows m).map nat))) := by
      rw [dAdd_lst (by simp [fst, snd]; omega), List.map_append]
    rw [eLc_nm (fun _ => true) nat nat (fst rows ++ snd rows m)]
    · rw [filter_tt]
    · rw [hwin]
      generalize (fst rows).map nat = A at *
      generalize (snd rows m).map nat = B at *
      generalize (fst rows ++ snd rows m).map nat = C at *
      simp [hadd]
    · simp
    · intro k _
      have := l_is_whole_ok (Pl_nat k)
      rw [hwin]
      generalize (fst rows).map nat = A at *
      generalize (snd rows m).map nat = B at *
      simp [this]
    · intro k _ _
      rw [hwin]
      simp
  have hlenC : ((fst rows ++ snd rows m).map nat).length = rows.length + m := by simp [fst, snd]
  refine rseq (fun e => e = [.fz (txs rows), .fz (txs rows), .tre (winD rows m), .un, .un]) (by
    generalize hC : (fst rows ++ snd rows m).map nat = C at *
    have h0' : dIdx (txs rows) (.int 0) = some (.fz (.str r0)) := by simp [txs, h0]
    simp [hc, hlenC, h0', hm]) fun e he => ?_
  subst he
  rw [hwin]
  refine rseq (fun e => e = [.fz (txs rows), .fz (txs rows), .un, .un, .own (.lst ((fst rows).map nat))]) (by
    generalize (fst rows).map nat = A at *
    generalize (snd rows m).map nat = B at *
    simp) fun e he => ?_
  subst he
  have hap : ∃ A', mAppend (.lst ((fst rows).map nat)) [.int 1] = some (.lst A', .fz .non) := ⟨_, mAppend_lst (by simp [fst, big]; omega)⟩
  obtain ⟨A', hap⟩ := hap
  refine rseq (fun e => e = [.fz (txs rows), .fz (txs rows), .un, .un, .own (.lst A')]) (by
    generalize (fst rows).map nat = A at *
    simp [hap]) fun e he => ?_
  subst he
  simp [x1, x2, q3, handsBack]
end LAW
end

section
set_option autoImplicit false
namespace LAW
open PV
/-- papers: lists of rows -/
def ppD (L : List (List (List Nat))) : D := .lst (L.map txs)
/-- rows that are not too long, few -/
def Rw (rows : List (List Nat)) : Prop := rows.length ≤ 40 ∧ ∀ r ∈ rows, r.length ≤ 40
theorem Rw.rows {rows : List (List Nat)} (h : Rw rows) : Rows rows := ⟨by have := h.1; omega, fun r hr => by have := h.2 r hr; omega⟩
/-- rows of the law's own meeting -/
structure Mt (rows : List (List Nat)) (m : Nat) : Prop where
  n1 : 1 ≤ rows.length
  n8 : rows.length ≤ 8
  m1 : 1 ≤ m
  m8 : m ≤ 8
  row : ∀ r ∈ rows, r.length = m
  sg : ∀ r ∈ rows, r.all isL2 = true
theorem Mt.eqr {rows : List (List Nat)} {m : Nat} (h : Mt rows m) : Eqr rows m := ⟨h.n1, by have := h.n8; omega, h.row, by have := h.m8; omega⟩
theorem Mt.rw_ {rows : List (List Nat)} {m : Nat} (h : Mt rows m) : Rw rows := ⟨by have := h.n8; omega, fun r hr => by have := h.row r hr; have := h.m8; omega⟩
theorem fault_eqr {rows : List (List Nat)} (h : Rows rows) (hf : fault rows = none) : ∃ m, Eqr rows m := by
  unfold fault at hf
  split at hf
  · rename_i hl
    have hf : (List.range rows.length).find? (badRow rows) = none := by
      cases hq : (List.range rows.length).find? (badRow rows) with
      | none => rfl
      | some i => rw [hq] at hf; cases hf
    rw [List.find?_eq_none] at hf
    refine ⟨(rows.getD 0 []).length, by omega, by omega, fun r hr => ?_, by have := h.at 0; omega⟩
    obtain ⟨i, hi, rfl⟩ := List.getElem_of_mem hr
    have := hf i (List.mem_range.mpr hi)
    unfold badRow at this
    have e : rows.getD i [] = rows[i] := by simp [hi]
    rw [e] at this
    simp only [Bool.or_eq_true, Bool.not_eq_true', decide_eq_true_eq, not_or, Decidable.not_not] at this
    exact this.2
  · cases hf
theorem mAppend_pp {L : List (List (List Nat))} {x : List (List Nat)} (h : L.length ≤ 1000) : mAppend (ppD L) [txs x] = some (ppD (L ++ [x]), .fz .non) := by
  unfold ppD
  rw [mAppend_lst (by simp [big]; omega)]
  simp
theorem isL_pp (L : List (List (List Nat))) : isL (ppD L) = true := rfl
theorem dAdd_rows {a b : List (List Nat)} (h : a.length + b.length ≤ 1000) : dAdd (txs a) (txs b) = some (.own (txs (a ++ b))) := by
  unfold txs
  rw [dAdd_lst (by simp; omega), List.map_append]
theorem cut_rows (rows : List (List Nat)) (lo hi : Option Int) : dCut (txs rows) lo hi = some (.own (txs (cut rows lo hi))) := by
  unfold txs
  rw [dCut_lst]
  simp [cut, cutIx]
theorem one_txs (r : List Nat) : (.lst [.str r] : D) = txs [r] := rfl
theorem Rw.mid {rows : List (List Nat)} {m k : Nat} (h : Mt rows m) {r : List (List Nat)} (hr : r.length ≤ 9) (hr2 : ∀ x ∈ r, x.length ≤ 40) (lo hi lo' hi' : Option Int) : Rw (cut rows lo hi ++ r ++ cut rows lo' hi') := by
  have a := cut_len rows lo hi
  have b := cut_len rows lo' hi'
  have n8 := h.n8
  refine ⟨by simp; omega, fun x hx => ?_⟩
  simp only [List.mem_append] at hx
  rcases hx with (hx | hx) | hx
  · exact h.rw_.2 x (cut_sub hx)
  · exact hr2 x hx
  · exact h.rw_.2 x (cut_sub hx)

def midR (rows : List (List Nat)) (k : Nat) (x : List Nat) : List (List Nat) := cut rows none (some (k : Int)) ++ [x] ++ cut rows (some ((k : Int) + 1)) none
theorem Mt.midR {rows : List (List Nat)} {m k : Nat} (h : Mt rows m) {x : List Nat} (hx : x.length ≤ 40) : Rw (midR rows k x) := Rw.mid (k := k) h (by simp) (by simpa using hx) _ _ _ _
def PPs (L : List (List (List Nat))) (N : Nat) : Prop := L.length ≤ N ∧ ∀ x ∈ L, Rw x
theorem PPs.app {L : List (List (List Nat))} {N : Nat} (h : PPs L N) {x : List (List Nat)} (hx : Rw x) : PPs (L ++ [x]) (N + 1) := ⟨by have := h.1; simp; omega, fun y hy => by
  rcases List.mem_append.mp hy with hy | hy
  · exact h.2 y hy
  · rw [List.mem_singleton.mp hy]; exact hx⟩
theorem dAdd_midR {rows : List (List Nat)} {m k : Nat} (h : Mt rows m) (x : List Nat) : ∃ y, dAdd (txs (cut rows none (some (k : Int)))) (txs [x]) = some (.own (txs y)) ∧ dAdd (txs y) (txs (cut rows (some ((k : Int) + 1)) none)) = some (.own (txs (midR rows k x))) := by
  have n8 := h.n8
  have a := cut_len rows none (some (k : Int))
  have b := cut_len rows (some ((k : Int) + 1)) none
  exact ⟨_, dAdd_rows (by simp; omega), dAdd_rows (by simp; omega)⟩
theorem near_ok {rows : List (List Nat)} {m : Nat} {d : D} (g : Good d) (h : Mt rows m) : ∃ L d', F_l_near [.io d, .fz (txs rows)] = some (.ok (.own (ppD L)) [d']) ∧ Good d' ∧ PPs L 40 := by
  obtain ⟨at_, d1, x1, g1, hat⟩ := dk g rows.length (by have := h.n1; omega) (by have := h.n8; omega)
  have n1 := h.n1
  have n8 := h.n8
  have m1 := h.m1
  have m8 := h.m8
  obtain ⟨row, hrow, hrm, hrs⟩ : ∃ row, dIdx (txs rows) (.int (at_ : Nat)) = some (.fz (.str row)) ∧ row ∈ rows ∧ row.length = m := by
    have e : rows.getD at_ [] = rows[at_] := by simp [hat]
    exact ⟨_, dIdx_txs hat, by rw [e]; exact List.getElem_mem _, by rw [e]; exact h.row _ (List.getElem_mem _)⟩
  have hsg : row.all isL2 = true := h.sg row hrm
  obtain ⟨pl, d2, x2, g2, hpl⟩ := dk g1 row.length (by omega) (by omega)
  refine gives_ex (F := F_l_near) (as := [.io d, .fz (txs rows)]) (P := fun r => ∃ L d', r = .ok (.own (ppD L)) [d'] ∧ Good d' ∧ PPs L 40) (fun P' hP => gives_of ?_) (fun r ⟨L, d', e, hg, hp⟩ hF => ⟨L, d', by rw [hF, e], hg, hp⟩)
  have hP : ∀ L d', Good d' → PPs L 40 → P' (.ok (.own (ppD L)) [d']) := fun L d' hg hp => hP _ ⟨L, d', rfl, hg, hp⟩
  simp only [g_l_near, List.replicate, argSlots_io, argSlots_fz, argSlots_nil, List.append, List.cons_append, List.nil_append, List.length_cons, List.length_nil, Nat.sub_zero, Nat.reduceSub, Nat.reduceAdd]
  refine rseq (fun e => e = [.io 0 d1, .fz (txs rows), .fz (nat at_), .un, .un, .un, .un, .un]) (by simp [x1]; rfl) fun e he => ?_
  subst he
  have hrow' : dIdx (txs rows) (nat at_) = some (.fz (.str row)) := hrow
  refine rseq (fun e => e = [.io 0 d1, .fz (txs rows), .fz (nat at_), .fz (.str row), .un, .un, .un, .un]) (by simp [hrow']) fun e he => ?_
  subst he
  refine rseq (fun e => e = [.io 0 d2, .fz (txs rows), .fz (nat at_), .fz (.str row), .fz (nat pl), .un, .un, .un]) (by simp [x2]; rfl) fun e he => ?_
  subst he
  have a := cut_len rows none (some (at_ : Int))
  have b := cut_len rows (some ((at_ : Int) + 1)) none
  have y1 := dAdd_rows (a := cut rows none (some (at_ : Int))) (b := cut rows (some ((at_ : Int) + 1)) none) (by omega)
  have y2 := dAdd_rows (a := rows) (b := [row]) (by simp; omega)
  have w1 : dMulS (.str [119]) (.int (m : Nat)) = some (.fz (.str (List.replicate m 119))) := by
    simp only [dMulS]
    rw [if_pos ⟨by simp, by simp; omega⟩]
    simp
  have w2 : dMul (.lst [.str (List.replicate m 119)]) (.int (9 - (rows.length : Int))) = some (.own (txs (List.replicate (9 - rows.length) (List.replicate m 119)))) := by
    have e : (9 - (rows.length : Int)) = ((9 - rows.length : Nat) : Int) := by omega
    rw [e]
    simp only [dMul]
    rw [if_pos ⟨by simp; omega, by simp [big]; omega⟩]
    simp [txs]
  have hX1 : (List.replicate (9 - rows.length) (List.replicate m 119)).length ≤ 9 := by simp
  have hX2 : ∀ x ∈ List.replicate (9 - rows.length) (List.replicate m 119), x.length ≤ 40 := fun x hx => by
    rw [List.eq_of_mem_replicate hx]; simp; omega
  generalize List.replicate (9 - rows.length) (List.replicate m 119) = X at *
  have y3 := dAdd_rows (a := rows) (b := X) (by omega)
  have c1 := cut_rows rows none (some (at_ : Int))
  have c2 := cut_rows rows (some ((at_ : Int) + 1)) none
  have rw0 : Rw (cut rows none (some (at_ : Int)) ++ cut rows (some ((at_ : Int) + 1)) none) := by
    have := Rw.mid (k := 0) h (r := []) (by simp) (by simp) none (some (at_ : Int)) (some ((at_ : Int) + 1)) none
    simpa using this
  have rw1 : Rw (rows ++ [row]) := ⟨by simp; omega, fun x hx => by
    rcases List.mem_append.mp hx with hx | hx
    · exact h.rw_.2 x hx
    · rw [List.mem_singleton.mp hx]; omega⟩
  have rw2 : Rw (rows ++ X) := ⟨by simp; omega, fun x hx => by
    rcases List.mem_append.mp hx with hx | hx
    · exact h.rw_.2 x hx
    · exact hX2 x hx⟩
  have one := one_txs row
  refine rseq (fun e => ∃ L, PPs L 5 ∧ e = [.io 0 d2, .fz (txs rows), .fz (nat at_), .fz (.str row), .fz (nat pl), .own (ppD L), .un, .un]) ?_ ?_
  · have hL : (.lst [txs rows, txs (cut rows none (some (at_ : Int)) ++ cut rows (some ((at_ : Int) + 1)) none), txs (rows ++ [row]), txs (rows ++ X), .lst []] : D) = ppD [rows, cut rows none (some (at_ : Int)) ++ cut rows (some ((at_ : Int) + 1)) none, rows ++ [row], rows ++ X, []] := rfl
    have hPs : PPs [rows, cut rows none (some (at_ : Int)) ++ cut rows (some ((at_ : Int) + 1)) none, rows ++ [row], rows ++ X, []] 5 := ⟨by simp, fun x hx => by
      simp only [List.mem_cons, List.mem_nil_iff, or_false, List.not_mem_nil] at hx
      rcases hx with rfl | rfl | rfl | rfl | rfl
      · exact h.rw_
      · exact rw0
      · exact rw1
      · exact rw2
      · exact ⟨by simp, by simp⟩⟩
    generalize cut rows none (some (at_ : Int)) = C1 at *
    generalize cut rows (some ((at_ : Int) + 1)) none = C2 at *
    have ln : dLen [txs rows] = some (.fz (.int rows.length)) := dLen_txs rows
    generalize ht : txs rows = TR at *
    generalize txs C1 = T1 at *
    generalize txs C2 = T2 at *
    simp [nat, c1, c2, y1, y2, y3, w1, w2, one, hrs, ln, hL]
    exact ⟨_, hPs, rfl⟩
  rintro _ ⟨L, hL, rfl⟩
  refine rseq (fun e => ∃ L s6, PPs L 12 ∧ lp s6 ∧ e = [.io 0 d2, .fz (txs rows), .fz (nat at_), .fz (.str row), .fz (nat pl), .own (ppD L), s6, .un]) ?_ ?_
  · have z1 := dAdd_str (a := row) (b := [119]) (by simp; omega)
    have z2 := dAdd_str (a := row) (b := [32]) (by simp; omega)
    have z3 : mUpper (.str row) [] = some (.fz (.str (row.map upC))) := by
      simp only [mUpper]
      rw [if_pos ⟨by omega, by
        rw [List.all_eq_true] at hsg ⊢
        intro c hc
        have := hsg c hc
        simp only [isL2, decide_eq_true_eq] at this
        rcases this with rfl | rfl <;> decide⟩]
    have z4 : dMulS (.str [119]) (.int 8) = some (.fz (.str (List.replicate 8 119))) := rfl
    have z5 : dMulS (.str [108]) (.int 9) = some (.fz (.str (List.replicate 9 108))) := rfl
    have hcl := cut_len row (some 1) none
    let Y : List (List Nat) := [row ++ [119], cut row (some 1) none, [], List.replicate 8 119, List.replicate 9 108, row.map upC, row ++ [32]]
    have hY : Y = [row ++ [119], cut row (some 1) none, [], List.replicate 8 119, List.replicate 9 108, row.map upC, row ++ [32]] := rfl
    have hYl : Y.length = 7 := rfl
    have hYb : ∀ y ∈ Y, y.length ≤ 40 := fun y hy => by
      rw [hY] at hy
      simp only [List.mem_cons, List.not_mem_nil, or_false] at hy
      rcases hy with rfl | rfl | rfl | rfl | rfl | rfl | rfl <;> first | (simp; done) | (simp; omega) | omega
    unfold o0_l_near
    refine Run_forGo Y D.str (fun i e => ∃ L s6, PPs L (5 + i) ∧ lp s6 ∧ e = [.io 0 d2, .fz (txs rows), .fz (nat at_), .fz (.str row), .fz (nat pl), .own (ppD L), s6, .un]) (env1 := [.io 0 d2, .fz (txs rows), .fz (nat at_), .fz (.str row), .fz (nat pl), .own (ppD L), .un, .un]) ?_ ⟨L, _, hL, lp_un, rfl⟩ ?_ ?_
    · simp [z1, z2, z3, z4, z5, hY]
    · rintro i hi e ⟨L, s6, hL, h6, rfl⟩
      obtain ⟨T, t1, t2⟩ := dAdd_midR (k := at_) h Y[i]
      have hm := h.midR (k := at_) (x := Y[i]) (hYb _ (List.getElem_mem _))
      refine ⟨[.io 0 d2, .fz (txs rows), .fz (nat at_), .fz (.str row), .fz (nat pl), .own (ppD L), .fz (.str Y[i]), .un], by simp [put1_free h6.free], ?_⟩
      have one := one_txs Y[i]
      have hap := mAppend_pp (L := L) (x := midR rows at_ Y[i]) (by have := hL.1; omega)
      have hs := hL.app hm
      generalize Y[i] = y at *
      generalize cut rows none (some (at_ : Int)) = C1 at *
      generalize cut rows (some ((at_ : Int) + 1)) none = C2 at *
      generalize ht : txs rows = TR at *
      generalize txs C1 = T1 at *
      generalize txs C2 = T2 at *
      generalize hmr : txs (midR rows at_ y) = MR at *
      unfold b0_l_near
      simp [nat, c1, c2, one, t1, t2, hap, isL_pp]
      exact ⟨_, hs, lp_fz _, rfl⟩
    · rintro e ⟨L, s6, hL, h6, rfl⟩
      exact ⟨L, s6, hL, h6, rfl⟩
  rintro _ ⟨L, s6, hL, h6, rfl⟩
  refine rseq (fun e => ∃ L s7, PPs L 20 ∧ lp s7 ∧ e = [.io 0 d2, .fz (txs rows), .fz (nat at_), .fz (.str row), .fz (nat pl), .own (ppD L), s6, s7]) ?_ ?_
  · let Z : List Nat := [119, 108, 45, 63, 100, 87, 32, 49]
    have hcl1 := cut_len row none (some (pl : Int))
    have hcl2 := cut_len row (some ((pl : Int) + 1)) none
    unfold o1_l_near
    refine Run_forGo Z (fun c => D.str [c]) (fun i e => ∃ L s7, PPs L (12 + i) ∧ lp s7 ∧ e = [.io 0 d2, .fz (txs rows), .fz (nat at_), .fz (.str row), .fz (nat pl), .own (ppD L), s6, s7]) (env1 := [.io 0 d2, .fz (txs rows), .fz (nat at_), .fz (.str row), .fz (nat pl), .own (ppD L), s6, .un]) ?_ ⟨L, _, hL, lp_un, rfl⟩ ?_ ?_
    · simp; rfl
    · rintro i hi e ⟨L, s7, hL, h7, rfl⟩
      have hZ : Z.length = 8 := rfl
      generalize Z[i] = z at *
      refine ⟨[.io 0 d2, .fz (txs rows), .fz (nat at_), .fz (.str row), .fz (nat pl), .own (ppD L), s6, .fz (.str [z])], by simp [put1_free h7.free], ?_⟩
      have u1 := dAdd_str (a := cut row none (some (pl : Int))) (b := [z]) (by simp; omega)
      have u2 := dAdd_str (a := cut row none (some (pl : Int)) ++ [z]) (b := cut row (some ((pl : Int) + 1)) none) (by simp; omega)
      have hyl : (cut row none (some (pl : Int)) ++ [z] ++ cut row (some ((pl : Int) + 1)) none).length ≤ 40 := by simp; omega
      generalize (cut row none (some (pl : Int)) ++ [z] ++ cut row (some ((pl : Int) + 1)) none) = y at *
      obtain ⟨T, t1, t2⟩ := dAdd_midR (k := at_) h y
      have hm := h.midR (k := at_) (x := y) hyl
      have one := one_txs y
      have hap := mAppend_pp (L := L) (x := midR rows at_ y) (by have := hL.1; omega)
      have hs := hL.app hm
      generalize cut rows none (some (at_ : Int)) = C1 at *
      generalize cut rows (some ((at_ : Int) + 1)) none = C2 at *
      generalize ht : txs rows = TR at *
      generalize txs C1 = T1 at *
      generalize txs C2 = T2 at *
      generalize hmr : txs (midR rows at_ y) = MR at *
      unfold b1_l_near
      simp [nat, c1, c2, one, t1, t2, hap, isL_pp, u1, u2]
      exact ⟨_, hs, lp_fz _, rfl⟩
    · rintro e ⟨L, s7, hL, h7, rfl⟩
      exact ⟨L, s7, hL, h7, rfl⟩
  rintro _ ⟨L, s7, hL, h7, rfl⟩
  have := hP L d2 g2 ⟨by have := hL.1; omega, hL.2⟩
  simp [handsBack, this]
end LAW
end

section
set_option autoImplicit false
namespace LAW
open PV
theorem wl_row {r : List Nat} (h : ∀ c ∈ r, c = 119 ∨ c = 108) : r.all isL2 = true := by
  rw [List.all_eq_true]
  intro c hc
  simpa [isL2] using h c hc
theorem meeting_ok {d : D} {a b : Nat} (g : Good d) (ha : 1 ≤ a ∧ a ≤ 8) (hb : 1 ≤ b ∧ b ≤ 8) : ∃ rows d', F_l_meeting [.io d, .fz (.int a), .fz (.int b)] = some (.ok (.own (txs rows)) [d']) ∧ Good d' ∧ Mt rows b := by
  obtain ⟨sh, d1, x1, g1, hsh⟩ := dkl g 5 rfl (by omega) (by omega)
  refine gives_ex (F := F_l_meeting) (as := [.io d, .fz (.int a), .fz (.int b)]) (P := fun r => ∃ rows d', r = .ok (.own (txs rows)) [d'] ∧ Good d' ∧ Mt rows b) (fun P' hP => gives_of ?_) (fun r ⟨L, d', e, hg, hp⟩ hF => ⟨L, d', by rw [hF, e], hg, hp⟩)
  have hP : ∀ L d', Good d' → Mt L b → P' (.ok (.own (txs L)) [d']) := fun L d' hg hp => hP _ ⟨L, d', rfl, hg, hp⟩
  simp only [g_l_meeting, List.replicate, argSlots_io, argSlots_fz, argSlots_nil, List.append, List.cons_append, List.nil_append, List.length_cons, List.length_nil, Nat.sub_zero, Nat.reduceSub, Nat.reduceAdd]
  refine rseq (fun e => e = [.io 0 d1, .fz (nat a), .fz (nat b), .fz (nat sh), .un, .un]) (by simp [x1]; exact ⟨rfl, rfl, rfl⟩) fun e he => ?_
  subst he
  have inner : ∀ (d1 : D) (i : Nat), Good d1 → ∃ (r : List Nat) (d2 : D), c0_l_meeting [.io 0 d1, .fz (nat a), .fz (nat b), .fz (nat sh), .un, .fz (nat i)] = some (.own (.lst (r.map fun c => D.str [c])), [.io 0 d2, .fz (nat a), .fz (nat b), .fz (nat sh), .un, .fz (nat i)]) ∧ Good d2 ∧ r.length = b ∧ ∀ c ∈ r, c = 119 ∨ c = 108 := by
    intro d1 i g1
    obtain ⟨r, r1, r2, e', r3, d2, g2, rfl⟩ := eLc_drG (c := nat) (f := fun c => D.str [c]) (l := List.range b) (fun c => c = 119 ∨ c = 108)
      (fun e => ∃ d s4, Good d ∧ lp s4 ∧ e = [.io 0 d, .fz (nat a), .fz (nat b), .fz (nat sh), s4, .fz (nat i)]) (fun e => ∃ d, Good d ∧ e = [.io 0 d, .fz (nat a), .fz (nat b), .fz (nat sh), .un, .fz (nat i)])
      (it := iRange1 (eVar 2)) (tg := .nm 4) (elt := eBin dIdx (eLst (eCons (eC (.str [108])) (eCons (eC (.str [119])) eNil))) (eB dInt (eCons (eBin dLt (eCall F_l_draw [true, false] (eCons (eVar 0) (eCons (eC (.int 4)) eNil))) (eVar 3)) eNil))) (vs := [4])
      (env := [.io 0 d1, .fz (nat a), .fz (nat b), .fz (nat sh), .un, .fz (nat i)]) (env1 := [.io 0 d1, .fz (nat a), .fz (nat b), .fz (nat sh), .un, .fz (nat i)])
      (by
        have := rngN (n := b) (by omega) [.io 0 d1, .fz (nat a), .fz (nat b), .fz (nat sh), .un, .fz (nat i)]
        simp; exact this) (by simp [wipeable]) ⟨d1, _, g1, lp_un, rfl⟩ (by
        rintro x hx _ ⟨d3, s4, g3, h4, rfl⟩
        obtain ⟨v, d4, x4, g4, hv⟩ := dkl g3 4 rfl (by omega) (by omega)
        refine ⟨[.io 0 d3, .fz (nat a), .fz (nat b), .fz (nat sh), .fz (nat x), .fz (nat i)], by simp [wipeE], .fz (.str [if v < sh then 119 else 108]), if v < sh then 119 else 108, [.io 0 d3, .fz (nat a), .fz (nat b), .fz (nat sh), .fz (nat x), .fz (nat i)], [.io 0 d4, .fz (nat a), .fz (nat b), .fz (nat sh), .fz (nat x), .fz (nat i)], [.io 0 d4, .fz (nat a), .fz (nat b), .fz (nat sh), .fz (nat x), .fz (nat i)], by simp, by
          simp [x4, nat, pick_lw'], by simp, by split <;> simp, d4, _, g4, lp_fz _, rfl⟩)
      (by rintro _ ⟨d3, s4, g3, h4, rfl⟩; exact ⟨d3, g3, by simp [backE]⟩)
    exact ⟨r, d2, r3, g2, by simpa using r1, r2⟩
  have hc : ∃ rows d2, c1_l_meeting [.io 0 d1, .fz (nat a), .fz (nat b), .fz (nat sh), .un, .un] = some (.own (txs rows), [.io 0 d2, .fz (nat a), .fz (nat b), .fz (nat sh), .un, .un]) ∧ Good d2 ∧ rows.length = a ∧ ∀ r ∈ rows, r.length = b ∧ r.all isL2 = true := by
    obtain ⟨rows, r1, r2, e', r3, d2, g2, rfl⟩ := eLc_drG (c := nat) (f := D.str) (l := List.range a) (fun r => r.length = b ∧ r.all isL2 = true)
      (fun e => ∃ d s5, Good d ∧ lp s5 ∧ e = [.io 0 d, .fz (nat a), .fz (nat b), .fz (nat sh), .un, s5]) (fun e => ∃ d, Good d ∧ e = [.io 0 d, .fz (nat a), .fz (nat b), .fz (nat sh), .un, .un])
      (it := iRange1 (eVar 1)) (tg := .nm 5) (elt := eMeth isS mJoin (eC (.str [])) (eCons c0_l_meeting eNil)) (vs := [5])
      (env := [.io 0 d1, .fz (nat a), .fz (nat b), .fz (nat sh), .un, .un]) (env1 := [.io 0 d1, .fz (nat a), .fz (nat b), .fz (nat sh), .un, .un])
      (by
        have := rngN (n := a) (by omega) [.io 0 d1, .fz (nat a), .fz (nat b), .fz (nat sh), .un, .un]
        simp; exact this) (by simp [wipeable]) ⟨d1, _, g1, lp_un, rfl⟩ (by
        rintro x hx _ ⟨d3, s5, g3, h5, rfl⟩
        obtain ⟨r, d4, x4, g4, hr1, hr2⟩ := inner d3 x g3
        have hj := mJoin_one (l := r) (by omega)
        refine ⟨[.io 0 d3, .fz (nat a), .fz (nat b), .fz (nat sh), .un, .fz (nat x)], by simp [wipeE], .fz (.str r), r, [.io 0 d3, .fz (nat a), .fz (nat b), .fz (nat sh), .un, .fz (nat x)], [.io 0 d4, .fz (nat a), .fz (nat b), .fz (nat sh), .un, .fz (nat x)], [.io 0 d4, .fz (nat a), .fz (nat b), .fz (nat sh), .un, .fz (nat x)], by simp, by
          generalize (r.map fun c => D.str [c]) = RR at *
          simp [x4, hj], by simp, ⟨hr1, wl_row hr2⟩, d4, _, g4, lp_fz _, rfl⟩)
      (by rintro _ ⟨d3, s5, g3, h5, rfl⟩; exact ⟨d3, g3, by simp [backE]⟩)
    exact ⟨rows, d2, r3, g2, by simpa using r1, r2⟩
  obtain ⟨rows, d2, hc, g2, hl, hr⟩ := hc
  have := hP rows d2 g2 ⟨by omega, by omega, by omega, by omega, fun r hr' => (hr r hr').1, fun r hr' => (hr r hr').2⟩
  simp [hc, handsBack, this]
end LAW
end

section
set_option autoImplicit false
namespace LAW
open PV
inductive LaI (ns : List Int) (most : Nat) : Env → Prop where
  | mk (d : D) (s3 s4 s5 s6 s8 : Slot) (g : Good d) (h3 : lp s3) (h4 : free s4) (h5 : lp s5) (h6 : free s6) (h8 : lp s8) : LaI ns most [.fz (.scr ns), .own d, .fz (nat most), s3, s4, s5, s6, .un, s8]
theorem paper_ok {x : List (List Nat)} (h : Rw x) {e : Env} {ns : List Int} {most : Nat} (he : ∃ d s3 s4 s6 s8, Good d ∧ e = [.fz (.scr ns), .own d, .fz (nat most), s3, s4, .fz (txs x), s6, .un, s8]) : Run b0_law e (nx fun e' => e' = e) := by
  obtain ⟨d, s3, s4, s6, s8, g, rfl⟩ := he
  have x1 := l_checked_ok h.rows
  have x2 := l_fault_ok h.rows
  unfold b0_law
  refine rseq (fun e => e = [.fz (.scr ns), .own d, .fz (nat most), s3, s4, .fz (txs x), s6, .un, s8]) (by simp [x1]) fun e he => ?_
  subst he
  cases hf : fault x with
  | none =>
    obtain ⟨m, hm⟩ := fault_eqr h.rows hf
    have x3 := l_counted_ok hm
    rw [hf] at x2
    simp [x2, x3, fD, dIsN, isNon]
  | some k =>
    rw [hf] at x2
    simp [x2, fD, dIsN, isNon]
theorem turn_ok (ns : List Int) (most : Nat) (hm : 1 ≤ most ∧ most ≤ 8) {k : Nat} : ∀ e, LaI ns most e → ∃ e1, Tg.put (.nm 3) (nat k) e = some e1 ∧ Run b1_law e1 (nx (LaI ns most)) := by
  rintro _ ⟨d, s3, s4, s5, s6, s8, g, h3, h4, h5, h6, h8⟩
  refine ⟨[.fz (.scr ns), .own d, .fz (nat most), .fz (nat k), s4, s5, s6, .un, s8], by simp [put1_free h3.free], ?_⟩
  obtain ⟨a, d1, x1, g1, ha⟩ := dk g most (by omega) (by omega)
  obtain ⟨b, d2, x2, g2, hb⟩ := dk g1 most (by omega) (by omega)
  obtain ⟨rows, d3, x3, g3, hM⟩ := meeting_ok (a := 1 + a) (b := 1 + b) g2 (by omega) (by omega)
  have x1' : F_l_draw [.io d, .fz (nat most)] = some (.ok (.fz (.int (a : Nat))) [d1]) := x1
  have x2' : F_l_draw [.io d1, .fz (nat most)] = some (.ok (.fz (.int (b : Nat))) [d2]) := x2
  have x3' : F_l_meeting [.io d2, .fz (.int (1 + (a : Int))), .fz (.int (1 + (b : Int)))] = some (.ok (.own (txs rows)) [d3]) := by
    have e1 : (((1 + a : Nat) : Nat) : Int) = 1 + (a : Int) := by omega
    have e2 : (((1 + b : Nat) : Nat) : Int) = 1 + (b : Int) := by omega
    rw [e1, e2] at x3; exact x3
  unfold b1_law
  refine rseq (fun e => e = [.fz (.scr ns), .own d3, .fz (nat most), .fz (nat k), .own (txs rows), s5, s6, .un, s8]) (by simp [x1', x2', x3', put1_free h4]) fun e he => ?_
  subst he
  have y1 := l_checked_ok hM.rw_.rows
  have y2 := l_counted_ok hM.eqr
  refine rseq (fun e => e = [.fz (.scr ns), .own d3, .fz (nat most), .fz (nat k), .own (txs rows), s5, s6, .un, s8]) (by simp [y1, y2]) fun e he => ?_
  subst he
  obtain ⟨L, d4, x4, g4, hL⟩ := near_ok g3 hM
  refine rseq (fun e => ∃ s5, lp s5 ∧ e = [.fz (.scr ns), .own d4, .fz (nat most), .fz (nat k), .fz (txs rows), s5, s6, .un, s8]) ?_ ?_
  · unfold o0_law
    refine Run_forGo L txs (fun _ e => ∃ s5, lp s5 ∧ e = [.fz (.scr ns), .own d4, .fz (nat most), .fz (nat k), .fz (txs rows), s5, s6, .un, s8]) (env1 := [.fz (.scr ns), .own d4, .fz (nat most), .fz (nat k), .fz (txs rows), s5, s6, .un, s8]) ?_ ⟨_, h5, rfl⟩ ?_ (fun e he => he)
    · have hfl : (RV.own (ppD L)).flat = (L.map txs).all D.scal := rfl
      have hpp : ppD L = .lst (L.map txs) := rfl
      simp [x4, hpp]
    · rintro i hi e ⟨s5, h5, rfl⟩
      refine ⟨[.fz (.scr ns), .own d4, .fz (nat most), .fz (nat k), .fz (txs rows), .fz (txs L[i]), s6, .un, s8], by simp [put1_free h5.free], ?_⟩
      refine (paper_ok (hL.2 _ (List.getElem_mem _)) ⟨d4, _, _, _, _, g4, rfl⟩).mono fun o ho => ?_
      cases o with
      | nxt e =>
        have ho : e = _ := ho
        subst ho
        exact ⟨_, lp_fz _, rfl⟩
      | _ => exact ho.elim
  rintro _ ⟨s5, h5, rfl⟩
  -- other rows
  obtain ⟨c, d5, x5, g5, hc⟩ := dkl g4 11 rfl (by omega) (by omega)
  obtain ⟨oth, r1, r2, e', r3, d6, g6, rfl⟩ := eLc_drG (c := nat) (f := D.str) (l := List.range c) (fun r => r.length ≤ 40)
      (fun e => ∃ d s7, Good d ∧ lp s7 ∧ e = [.fz (.scr ns), .own d, .fz (nat most), .fz (nat k), .fz (txs rows), s5, s6, s7, s8]) (fun e => ∃ d, Good d ∧ e = [.fz (.scr ns), .own d, .fz (nat most), .fz (nat k), .fz (txs rows), s5, s6, .un, s8])
      (it := iRange1 (eCall F_l_draw [true, false] (eCons (eVar 1) (eCons (eC (.int 11)) eNil)))) (tg := .nm 7) (elt := eBin dMulS (eC (.str [119])) (eBin dAdd (eC (.int 1)) (eCall F_l_draw [true, false] (eCons (eVar 1) (eCons (eC (.int 9)) eNil))))) (vs := [7])
      (env := [.fz (.scr ns), .own d4, .fz (nat most), .fz (nat k), .fz (txs rows), s5, s6, .un, s8]) (env1 := [.fz (.scr ns), .own d5, .fz (nat most), .fz (nat k), .fz (txs rows), s5, s6, .un, s8])
      (by
        have := rngN (n := c) (by omega) [.fz (.scr ns), .own d5, .fz (nat most), .fz (nat k), .fz (txs rows), s5, s6, .un, s8]
        simp [x5]; exact this) (by simp [wipeable]) ⟨d5, _, g5, lp_un, rfl⟩ (by
        rintro x hx _ ⟨d7, s7, g7, h7, rfl⟩
        obtain ⟨v, d8, x8, g8, hv⟩ := dkl g7 9 rfl (by omega) (by omega)
        have hmul : dMulS (.str [119]) (.int (1 + (v : Int))) = some (.fz (.str (List.replicate (1 + v) 119))) := by
          have e : (1 + (v : Int)) = ((1 + v : Nat) : Int) := by omega
          rw [e]
          simp only [dMulS]
          rw [if_pos ⟨by simp, by simp; omega⟩]
          simp only [Int.toNat_natCast]
          simp
        refine ⟨[.fz (.scr ns), .own d7, .fz (nat most), .fz (nat k), .fz (txs rows), s5, s6, .fz (nat x), s8], by simp [wipeE], .fz (.str (List.replicate (1 + v) 119)), List.replicate (1 + v) 119, [.fz (.scr ns), .own d7, .fz (nat most), .fz (nat k), .fz (txs rows), s5, s6, .fz (nat x), s8], [.fz (.scr ns), .own d8, .fz (nat most), .fz (nat k), .fz (txs rows), s5, s6, .fz (nat x), s8], [.fz (.scr ns), .own d8, .fz (nat most), .fz (nat k), .fz (txs rows), s5, s6, .fz (nat x), s8], by simp, by
          simp [x8, hmul], by simp, by simp; omega, d8, _, g8, lp_fz _, rfl⟩)
      (by rintro _ ⟨d7, s7, g7, h7, rfl⟩; exact ⟨d7, g7, by simp [backE]⟩)
  have hoth : Rw oth := ⟨by rw [r1]; simp; omega, r2⟩
  have r3' : c0_law [.fz (.scr ns), .own d4, .fz (nat most), .fz (nat k), .fz (txs rows), s5, s6, .un, s8] = some (.own (txs oth), [.fz (.scr ns), .own d6, .fz (nat most), .fz (nat k), .fz (txs rows), s5, s6, .un, s8]) := r3
  refine rseq (fun e => e = [.fz (.scr ns), .own d6, .fz (nat most), .fz (nat k), .fz (txs rows), s5, .own (txs oth), .un, s8]) (by simp [r3', put1_free h6]) fun e he => ?_
  subst he
  have y3 := l_checked_ok hoth.rows
  refine rseq (fun e => e = [.fz (.scr ns), .own d6, .fz (nat most), .fz (nat k), .fz (txs rows), s5, .own (txs oth), .un, s8]) (by simp [y3]) fun e he => ?_
  subst he
  obtain ⟨v, d7, x7, g7, hv⟩ := dkl g6 9 rfl (by omega) (by omega)
  refine rseq (fun e => e = [.fz (.scr ns), .own d7, .fz (nat most), .fz (nat k), .fz (txs rows), s5, .own (txs oth), .un, .fz (.int (1 + (v : Int)))]) (by simp [x7, put1_free h8.free]) fun e he => ?_
  subst he
  obtain ⟨w, d8, x8, g8, hw⟩ := dkl g7 9 rfl (by omega) (by omega)
  have z1 : dMulS (.str [119, 108]) (.int 5) = some (.fz (.str (List.replicate 5 [119, 108]).flatten)) := rfl
  have hcl := cut_len (List.replicate 5 [119, 108]).flatten none (some (1 + (v : Int)))
  have h10 : ((List.replicate 5 [119, 108]).flatten : List Nat).length = 10 := rfl
  generalize (List.replicate 5 [119, 108]).flatten = W at *
  generalize hcw : cut W none (some (1 + (v : Int))) = Y at *
  have z2 : dMul (.lst [.str Y]) (.int (1 + (w : Int))) = some (.own (txs (List.replicate (1 + w) Y))) := by
    have e : (1 + (w : Int)) = ((1 + w : Nat) : Int) := by omega
    rw [e]
    simp only [dMul]
    rw [if_pos ⟨by simp; omega, by simp [big]; omega⟩]
    simp only [Int.toNat_natCast]
    simp [txs]
  have hrep : Rw (List.replicate (1 + w) Y) := ⟨by simp; omega, fun x hx => by rw [List.eq_of_mem_replicate hx]; omega⟩
  have y4 := l_checked_ok hrep.rows
  simp [z1, hcw, x8, z2, y4]
  exact .mk _ _ _ _ _ _ g8 (lp_fz _) (free_fz _) h5 (free_own _) (lp_fz _)
theorem law_true (ns : List Int) (hns : ns.length ≤ 63) : F_law [.fz (.scr ns)] = some (.ok (.fz (.bl true)) []) := by
  refine gives_eq (gives_of ?_)
  obtain ⟨d0, hf, g0⟩ := feed_ok ns
  simp only [g_law, List.replicate, argSlots_io, argSlots_fz, argSlots_nil, List.append, List.cons_append, List.nil_append, List.length_cons, List.length_nil, Nat.sub_zero, Nat.reduceSub, Nat.reduceAdd]
  refine rseq (fun e => e = [.fz (.scr ns), .own d0, .un, .un, .un, .un, .un, .un, .un]) (by simp [hf]) fun e he => ?_
  subst he
  refine rseq (fun e => e = [.fz (.scr ns), .own d0, .fz (.int 4), .un, .un, .un, .un, .un, .un]) (by simp) fun e he => ?_
  subst he
  obtain ⟨v, d1, x1, g1, hv⟩ := dkl g0 5 rfl (by omega) (by omega)
  refine rseq (fun e => ∃ most, (1 ≤ most ∧ most ≤ 8) ∧ e = [.fz (.scr ns), .own d1, .fz (nat most), .un, .un, .un, .un, .un, .un]) (by
    by_cases h : v = 0
    · subst h; simp [x1]; exact ⟨8, by omega, rfl⟩
    · simp [x1, h]; exact ⟨4, by omega, rfl⟩) ?_
  rintro _ ⟨most, hm, rfl⟩
  refine rseq (LaI ns most) ?_ ?_
  · unfold o1_law
    refine Run_forGo (List.range 3) nat (fun _ => LaI ns most) (env1 := [.fz (.scr ns), .own d1, .fz (nat most), .un, .un, .un, .un, .un, .un]) ?_ (.mk _ _ _ _ _ _ g1 lp_un free_un lp_un free_un lp_un) (fun i hi e he => turn_ok ns most hm e he) (fun e he => he)
    have := rngN (n := 3) (by omega) [.fz (.scr ns), .own d1, .fz (nat most), .un, .un, .un, .un, .un, .un]
    rw [show ((3 : Nat) : Int) = 3 from rfl] at this
    exact this
  rintro _ ⟨d, s3, s4, s5, s6, s8, g, h3, h4, h5, h6, h8⟩
  have w1 := wins_ok (rows := [[119, 119, 108], [108, 108, 108]]) (m := 3) ⟨by simp, by simp, by simp, by omega⟩
  have w2 : dEq (winD [[119, 119, 108], [108, 108, 108]] 3) (.tup [.lst [.int 2, .int 0], .lst [.int 1, .int 1, .int 2]]) = some (.fz (.bl true)) := rfl
  have w3 : dMulS (.str [119]) (.int 8) = some (.fz (.str (List.replicate 8 119))) := rfl
  have w4 : dMul (.lst [.str (List.replicate 8 119)]) (.int 8) = some (.own (txs (List.replicate 8 (List.replicate 8 119)))) := by
    simp only [dMul]
    rw [if_pos ⟨by decide, by simp [big]⟩]
    rfl
  have w5 := l_checked_ok (rows := List.replicate 8 (List.replicate 8 119)) ⟨by simp, fun x hx => by rw [List.eq_of_mem_replicate hx]; simp⟩
  have e1 : (.lst [.str [119, 119, 108], .str [108, 108, 108]] : D) = txs [[119, 119, 108], [108, 108, 108]] := rfl
  generalize txs (List.replicate 8 (List.replicate 8 119)) = T at *
  generalize winD [[119, 119, 108], [108, 108, 108]] 3 = W at *
  generalize List.replicate 8 119 = R8 at *
  simp [e1, w1, w2, w3, w4, w5, handsBack]
end LAW
end

section
set_option maxRecDepth 100000
set_option maxHeartbeats 4000000
namespace LAW
open PySem PySem.Spec PyProof.Rows L2 PV
/-- no table of code objects is needed -/
instance codeTabs0 : CodeTabs := ⟨[]⟩
theorem no_exc {P : Program} {w : World} {H : Hp} {s : Shared} {e : Value} {s' : Shared} (h : L2.CX P w [] H s (fun _ _ _ => False) e s') : False := by
  obtain ⟨_, _, _, _, _, _, _, _, _, _, _, _, z⟩ := h
  exact z
theorem law_end {K : PySem.W.Frag} (H : Hp) (a : Addr) (ns : List Int) (hl : ns.length ≤ 63) (hb : ∀ z ∈ ns, Builtin.Int.intBits z ≤ 1048576) (hO : Only H) (hS : SqL K H a (ns.map V.int)) : spOk K 1 F_law [.ref a] H (fun v _ => v = .bl true) (fun _ _ _ => False) := by
  refine ⟨H, [.fz (.scr ns)], [], .fz (.bl true), [], rfl, .refl _, ⟨fun p hp => (nomatch hp), fun b ps e => (by rcases hO b with q | ⟨o, xs, q⟩ <;> rw [q] at e <;> cases e)⟩, .fz (by unfold R; exact ⟨a, rfl, hS⟩) .nil, List.nodup_nil, law_true ns hl, fun F' H' v _ h => ?_⟩
  have h : R K F' (.bl true) v := h
  unfold R at h; exact h
open PySem PySem.W PyProof.Rows
end LAW
set_option maxHeartbeats 0 in
theorem PySem.Challenge.cw_tablesplayed_k86_meetings_checked_holds : PySem.Challenge.rw_tablesplayed_k86_meetings_checked.Holds := by
  w_on; o_law; k_head; (case hw => w_witness2)
  k_fill
  refine L2.walk_ofB (l := PySem.Challenge.rw_tablesplayed_k86_meetings_checked) (n := 63) (k := 5) (x := "script") (CX := fun w => L2.CX (PySem.Challenge.rw_tablesplayed_k86_meetings_checked).prog w) (sp := fun w => PV.spOk _ 1 LAW.F_law) rfl (by decide) rfl ⟨rfl, by decide, by decide⟩ (fun w h Y => PySem.W.kIn_of Y) ?F (fun w H a ns hl hb hO hS => LAW.law_end H a ns hl hb hO hS) (fun w H s e s' h => LAW.no_exc (P := (PySem.Challenge.rw_tablesplayed_k86_meetings_checked).prog) h)
  case F =>
    intro w mg fa h KX G hmg
    refine' LAW.all_mk KX G hmg ?a0 ?l0 ?c0 ?k0 ?a1 ?l1 ?c1 ?k1 ?a2 ?l2 ?c2 ?k2 ?a3 ?l3 ?c3 ?k3 ?a4 ?l4 ?c4 ?k4 ?a5 ?l5 ?c5 ?k5 ?a6 ?l6 ?c6 ?k6 ?a7 ?l7 ?c7 ?k7 ?a8 ?l8 ?c8 ?k8 ?a9 ?l9 ?c9 ?k9 ?a10 ?l10 ?c10 ?k10 ?a11 ?l11 ?c11 ?k11 ?a12 ?l12 ?c12 ?k12 ?aC_ClubError ?aC_BadTable ?aC_BadScores ?xL_BadTable ?sa_BadTable ?ga_BadTable ?gg_BadTable ?nf_at_BadTable ?ai_BadTable ?ti_BadTable ?li_BadTable ?ci_BadTable ?ki_BadTable ?kC_BadTable ?eC_BadTable ?tC_BadTable ?hC_BadTable ?cc_BadTable ?mo_BadTable ?xL_BadScores ?sa_BadScores ?ga_BadScores ?gg_BadScores ?nf_at_BadScores ?ai_BadScores ?ti_BadScores ?li_BadScores ?ci_BadScores ?ki_BadScores ?kC_BadScores ?eC_BadScores ?tC_BadScores ?hC_BadScores ?cc_BadScores ?mo_BadScores ?eC_ClubError ?tC_ClubError ?hC_ClubError ?sb_BadTable_ClubError ?sb_BadScores_ClubError ?sb_BadTable_BadTable ?sb_BadScores_BadTable ?sb_BadTable_BadScores ?sb_BadScores_BadScores ?sv_BadTable ?sv_BadScores ?gn ?gt ?z_ValueError ?z_abs ?z_all ?z_bool ?z_enumerate ?z_int ?z_isinstance ?z_len ?z_list ?z_range ?z_tuple ?y_MOST_IN_CLUB
    (case a0 => k_is); (case l0 => k_is); (case c0 => k_is); (case k0 => k_is); (case a1 => k_is); (case l1 => k_is); (case c1 => k_is); (case k1 => k_is); (case a2 => k_is); (case l2 => k_is); (case c2 => k_is); (case k2 => k_is); (case a3 => k_is); (case l3 => k_is); (case c3 => k_is); (case k3 => k_is); (case a4 => k_is); (case l4 => k_is); (case c4 => k_is); (case k4 => k_is); (case a5 => k_is); (case l5 => k_is); (case c5 => k_is); (case k5 => k_is); (case a6 => k_is); (case l6 => k_is); (case c6 => k_is); (case k6 => k_is); (case a7 => k_is); (case l7 => k_is); (case c7 => k_is); (case k7 => k_is); (case a8 => k_is); (case l8 => k_is); (case c8 => k_is); (case k8 => k_is); (case a9 => k_is); (case l9 => k_is); (case c9 => k_is); (case k9 => k_is); (case a10 => k_is); (case l10 => k_is); (case c10 => k_is); (case k10 => k_is); (case a11 => k_is); (case l11 => k_is); (case c11 => k_is); (case k11 => k_is); (case a12 => k_is); (case l12 => k_is); (case c12 => k_is); (case k12 => k_is); (case aC_ClubError => k_is); (case aC_BadTable => k_is); (case aC_BadScores => k_is); (case xL_BadTable => k_is); (case sa_BadTable => k_is); (case ga_BadTable => k_is); (case gg_BadTable => k_is); (case nf_at_BadTable => k_is); (case ai_BadTable => k_is); (case ti_BadTable => k_is); (case li_BadTable => k_is); (case ci_BadTable => k_is); (case ki_BadTable => k_is); (case kC_BadTable => k_is); (case eC_BadTable => k_is); (case tC_BadTable => k_is); (case hC_BadTable => k_is); (case cc_BadTable => k_is); (case mo_BadTable => k_is); (case xL_BadScores => k_is); (case sa_BadScores => k_is); (case ga_BadScores => k_is); (case gg_BadScores => k_is); (case nf_at_BadScores => k_is); (case ai_BadScores => k_is); (case ti_BadScores => k_is); (case li_BadScores => k_is); (case ci_BadScores => k_is); (case ki_BadScores => k_is); (case kC_BadScores => k_is); (case eC_BadScores => k_is); (case tC_BadScores => k_is); (case hC_BadScores => k_is); (case cc_BadScores => k_is); (case mo_BadScores => k_is); (case eC_ClubError => k_is); (case tC_ClubError => k_is); (case hC_ClubError => k_is); (case sb_BadTable_ClubError => k_is); (case sb_BadScores_ClubError => k_is); (case sb_BadTable_BadTable => k_is); (case sb_BadScores_BadTable => k_is); (case sb_BadTable_BadScores => k_is); (case sb_BadScores_BadScores => k_is); (case sv_BadTable => k_is); (case sv_BadScores => k_is); (case gn => k_is); (case gt => k_is); (case z_ValueError => k_is); (case z_abs => k_is); (case z_all => k_is); (case z_bool => k_is); (case z_enumerate => k_is); (case z_int => k_is); (case z_isinstance => k_is); (case z_len => k_is); (case z_list => k_is); (case z_range => k_is); (case z_tuple => k_is); (case y_MOST_IN_CLUB => k_is)
end
