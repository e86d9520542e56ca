import PyProof.Rows.All
import Wide.All
import OpenK.AllK
import Wide.FinOn
import HandS.ForMost
import HandS.Wide
import HandS.TupAny
import HandS.TupMul
import HandS.Flow
import HandS.Zip
import HandS.Rev
import HandS.IsInst
import HandS.SortInts
import HandS.Deep
import HandS.WideBits
import KE.DatumOrd
import HandS.Iter
import KE.GoesMore
import HandS.Comp
import HandS.Conv
import HandS.BoundList
import HandS.Style
import HandS.Ends
import HandS.Defaults
import HandS.More
import HandS.Head0
import HandS.Head1
import HandS.Head2
import HandS.HeadEnd
import HandS.HeadHook1
import HandS.HeadHook2
import HandS.EndBits
import HandS.Set
import HandS.SetFor
import HandS.Strs
import PyProof.Rows.SetFrom
import HandS.SortRule
import HandS.TupSets
import HandS.SetKeys
import KE.KStateDown
import HandS.Words
import HandS.WordsExc
import PySem.Challenge.RW_neverfraction_k48_across_powers_by_chose
set_option Elab.async false
set_option linter.all false
set_option maxRecDepth 100000
set_option maxHeartbeats 0
/-! Values, results, denotations: plain Lean. -/
namespace Nf

/-- a value, structural -/
inductive Val where
  | non
  | bl (b : Bool)
  | int (i : Int)
  | str (s : String)
  | tup (xs : List Val)
  | lst (xs : List Val)
  | iset (xs : List Int)
  | dct (ks : List Int) (vs : List Val)
  | tin
  | fn (k : Nat)
  | scr (ns : List Int)
  deriving Inhabited

/-- the list of draws: three intsOf -/
structure Tin where
  a : Int
  b : Int
  c : Int

inductive Res (α : Type) where
  | ok (v : α) (t : Tin)
  | exc (k : Nat) (t : Tin)
  | bad

abbrev M (α : Type) : Type := Tin → Res α

def Res.bind {α β : Type} (r : Res α) (f : α → M β) : Res β :=
  match r with
  | .ok v t => f v t
  | .exc k t => .exc k t
  | .bad => .bad

/-- what is raised does not pass -/
def Res.bindN {α β : Type} (r : Res α) (f : α → M β) : Res β :=
  match r with
  | .ok v t => f v t
  | .exc _ _ => .bad
  | .bad => .bad

@[simp] theorem Res.bind_ok {α β : Type} (v : α) (t : Tin) (f : α → M β) : (Res.ok v t).bind f = f v t := rfl
@[simp] theorem Res.bind_exc {α β : Type} (k : Nat) (t : Tin) (f : α → M β) : (Res.exc k t : Res α).bind f = .exc k t := rfl
@[simp] theorem Res.bind_bad {α β : Type} (f : α → M β) : (Res.bad : Res α).bind f = .bad := rfl
@[simp] theorem Res.bindN_ok {α β : Type} (v : α) (t : Tin) (f : α → M β) : (Res.ok v t).bindN f = f v t := rfl
@[simp] theorem Res.bindN_exc {α β : Type} (k : Nat) (t : Tin) (f : α → M β) : (Res.exc k t : Res α).bindN f = .bad := rfl
@[simp] theorem Res.bindN_bad {α β : Type} (f : α → M β) : (Res.bad : Res α).bindN f = .bad := rfl

/-- an env: by slot, whether the list is the frame's own, its value -/
abbrev Env : Type := List (Option (Bool × Val))
abbrev E : Type := Env → M Val
abbrev T : Type := Env → M Bool
abbrev A : Type := Env → M (List Val)
abbrev G : Type := Val → Env → Option Env

/-- the most items of a list or tuple -/
abbrev lim : Nat := 1000000

/-! ### expressions -/
def eVar (i : Nat) : E := fun env t => match env[i]? with
  | some (some (false, v)) => .ok v t
  | _ => .bad
/-- a name read where its list is not kept -/
def eOwn (i : Nat) : E := fun env t => match env[i]? with
  | some (some (_, v)) => .ok v t
  | _ => .bad
def eC (v : Val) : E := fun _ t => .ok v t
def eOp (op : Val → Val → Option Val) (f g : E) : E := fun env t =>
  (f env t).bind fun v t1 => (g env t1).bind fun w t2 => match op v w with
    | some z => .ok z t2
    | none => .bad
def eUn (op : Val → Option Val) (f : E) : E := fun env t =>
  (f env t).bind fun v t1 => match op v with
    | some z => .ok z t1
    | none => .bad
def aNil : A := fun _ t => .ok [] t
def aCons (f : E) (g : A) : A := fun env t => (f env t).bind fun v t1 => (g env t1).bind fun vs t2 => .ok (v :: vs) t2
def eTup (a : A) : E := fun env t => (a env t).bind fun vs t1 => if vs.length ≤ lim then .ok (.tup vs) t1 else .bad
def eLst (a : A) : E := fun env t => (a env t).bind fun vs t1 => if vs.length ≤ lim then .ok (.lst vs) t1 else .bad
/-- a built-in by the values of its arguments -/
def eB (op : List Val → Option Val) (a : A) : E := fun env t => (a env t).bind fun vs t1 => match op vs with
  | some z => .ok z t1
  | none => .bad
abbrev Gam : Type := Nat → List Val → M Val
def eCall (Γ : Gam) (k : Nat) (a : A) : E := fun env t => (a env t).bind fun vs t1 => (Γ k vs t1).bindN fun v t2 => .ok v t2
def eIf (c : T) (f g : E) : E := fun env t => (c env t).bind fun b t1 => if b then f env t1 else g env t1
mutual
/-- no list within -/
def Val.noLst : Val → Bool
  | .lst _ => false
  | .iset _ => false
  | .dct _ _ => false
  | .tup xs => noLstL xs
  | _ => true
def noLstL : List Val → Bool
  | [] => true
  | x :: xs => x.noLst && noLstL xs
end
/-- a call whose lists are lent: its value holds none -/
def eCallB (Γ : Gam) (k : Nat) (a : A) : E := fun env t => (a env t).bind fun vs t1 => (Γ k vs t1).bindN fun v t2 => if v.noLst then .ok v t2 else .bad
/-- tin[k] -/
def eTin (i k : Nat) : E := fun env t => match env[i]? with
  | some (some (false, .tin)) => (match k with
    | 0 => .ok (.int t.a) t
    | 1 => .ok (.int t.b) t
    | 2 => .ok (.int t.c) t
    | _ => .bad)
  | _ => .bad

/-- a value's truth -/
def tru : Val → Option Bool
  | .non => some false
  | .bl b => some b
  | .int i => some (i != 0)
  | .tup xs => some (!xs.isEmpty)
  | .lst xs => some (!xs.isEmpty)
  | _ => none
def eAnd (f g : E) : E := fun env t => (f env t).bind fun v t1 => match tru v with
  | some true => g env t1
  | some false => .ok v t1
  | none => .bad
def eOr (f g : E) : E := fun env t => (f env t).bind fun v t1 => match tru v with
  | some true => .ok v t1
  | some false => g env t1
  | none => .bad
def eNot (f : E) : E := fun env t => (f env t).bind fun v t1 => match tru v with
  | some b => .ok (.bl (!b)) t1
  | none => .bad

/-! ### tests -/
def tTru (f : E) : T := fun env t => (f env t).bind fun v t1 => match tru v with
  | some b => .ok b t1
  | none => .bad
/-- the test of a comparison -/
def tBl (f : E) : T := fun env t => (f env t).bind fun v t1 => match v with
  | .bl b => .ok b t1
  | _ => .bad
def tAnd (c d : T) : T := fun env t => (c env t).bind fun b t1 => if b then d env t1 else .ok false t1
def tOr (c d : T) : T := fun env t => (c env t).bind fun b t1 => if b then .ok true t1 else d env t1
def tNot (c : T) : T := fun env t => (c env t).bind fun b t1 => .ok (!b) t1
def tYes : T := fun _ t => .ok true t

/-! ### targets -/
def gName (i : Nat) : G := fun v env => if i < env.length then some (env.set i (some (false, v))) else none
def gsL : List G → List Val → Env → Option Env
  | [], [], env => some env
  | g :: gs, v :: vs, env => (g v env).bind (gsL gs vs)
  | _, _, _ => none
/-- a tuple taken apart -/
def gTup (gs : List G) : G := fun v env => match v with
  | .tup vs => gsL gs vs env
  | _ => none

def wipe (env : Env) : List Nat → Env
  | [] => env
  | v :: vs => (wipe env vs).set v none

/-! ### comprehensions -/
abbrev It : Type := Env → M (List Val)
def compLoop (g : G) (c : T) (f : E) (env : Env) : List Val → M (List Val)
  | [], t => .ok [] t
  | x :: xs, t => match g x env with
    | none => .bad
    | some env1 => (c env1 t).bindN fun b t1 =>
      if b then (f env1 t1).bindN fun v t2 => (compLoop g c f env xs t2).bindN fun vs t3 => .ok (v :: vs) t3
      else compLoop g c f env xs t1
def eComp (it : It) (g : G) (own : List Nat) (c : T) (f : E) : E := fun env t =>
  (it env t).bind fun xs t1 => if xs.length ≤ lim then (compLoop g c f (wipe env own) xs t1).bindN fun vs t2 => .ok (.lst vs) t2 else .bad

/-- what a for walks: the items of a list, a tuple -/
def items : Val → Option (List Val)
  | .tup xs => some xs
  | .lst xs => some xs
  | _ => none
def iSeq (f : E) : It := fun env t => (f env t).bind fun v t1 => match items v with
  | some xs => .ok xs t1
  | none => .bad
def rangeL (lo hi : Int) : List Val := (List.range (hi - lo).toNat).map fun (k : Nat) => Val.int (lo + (k : Int))
def iRange1 (a : A) : It := fun env t => (a env t).bind fun vs t1 => match vs with
  | [.int j] => if j ≤ lim ∧ -lim ≤ j then .ok (rangeL 0 j) t1 else .bad
  | _ => .bad
def iRange2 (a : A) : It := fun env t => (a env t).bind fun vs t1 => match vs with
  | [.int i, .int j] => if -lim ≤ i ∧ i ≤ lim ∧ -lim ≤ j ∧ j ≤ lim then .ok (rangeL i j) t1 else .bad
  | _ => .bad
def enumL (xs : List Val) : List Val := xs.zipIdx.map fun p => Val.tup [.int p.2, p.1]
def iEnum (a : A) : It := fun env t => (a env t).bind fun vs t1 => match vs with
  | [.tup xs] => .ok (enumL xs) t1
  | [.lst xs] => .ok (enumL xs) t1
  | _ => .bad
def zipL (xs ys : List Val) : List Val := List.zipWith (fun x y => Val.tup [x, y]) xs ys
def iZip (a : A) : It := fun env t => (a env t).bind fun vs t1 => match vs with
  | [.tup xs, .tup ys] => .ok (zipL xs ys) t1
  | [.lst xs, .lst ys] => .ok (zipL xs ys) t1
  | _ => .bad
def iRev (f : E) : It := fun env t => (f env t).bind fun v t1 => match items v with
  | some xs => .ok xs.reverse t1
  | none => .bad

/-! ### statements -/
inductive RS where
  | nx (env : Env) (t : Tin)
  | rt (v : Val) (t : Tin)
  | bk (env : Env) (t : Tin)
  | ct (env : Env) (t : Tin)
  | exc (k : Nat) (t : Tin)
  | bad
abbrev S : Type := Env → Tin → RS

def Res.toS {α : Type} (r : Res α) (f : α → Tin → RS) : RS :=
  match r with
  | .ok v t => f v t
  | .exc k t => .exc k t
  | .bad => .bad
@[simp] theorem Res.toS_ok {α : Type} (v : α) (t : Tin) (f : α → Tin → RS) : (Res.ok v t).toS f = f v t := rfl
@[simp] theorem Res.toS_exc {α : Type} (k : Nat) (t : Tin) (f : α → Tin → RS) : (Res.exc k t : Res α).toS f = .exc k t := rfl
@[simp] theorem Res.toS_bad {α : Type} (f : α → Tin → RS) : (Res.bad : Res α).toS f = .bad := rfl

def sNil : S := fun env t => .nx env t
def sSeq (s1 s2 : S) : S := fun env t => match s1 env t with
  | .nx env' t' => s2 env' t'
  | r => r
def sBad : S := fun _ _ => .bad
def sBreak : S := fun env t => .bk env t
def sCont : S := fun env t => .ct env t
/-- every list of the frame's own is given away -/
def frzAll (env : Env) : Env := env.map fun o => o.map fun p => (false, p.2)
def frz1 (i : Nat) (env : Env) : Env := match env[i]? with
  | some (some p) => env.set i (some (false, p.2))
  | _ => env
def sFrz (i : Nat) (s : S) : S := fun env t => s (frz1 i env) t
def sRet (f : E) : S := fun env t => (f (frzAll env) t).toS fun v t' => .rt v t'
def sIf (c : T) (a b : S) : S := fun env t => (c env t).toS fun k t1 => if k then a env t1 else b env t1
def sAsg (g : G) (f : E) : S := fun env t => (f env t).toS fun v t1 => match g v env with
  | some env' => .nx env' t1
  | none => .bad
/-- a name takes a new list of its own -/
def sAsgO (i : Nat) (f : E) : S := fun env t => (f env t).toS fun v t1 => if i < env.length then .nx (env.set i (some (true, v))) t1 else .bad
/-- several names at once, from the right; each with whether its list is new -/
def putAll : List (Nat × Bool) → List Val → Env → Option Env
  | [], [], env => some env
  | p :: ps, v :: vs, env => (putAll ps vs env).bind fun e => if p.1 < e.length then some (e.set p.1 (some (p.2, v))) else none
  | _, _, _ => none
def sPar (ps : List (Nat × Bool)) (a : A) : S := fun env t => (a env t).toS fun vs t1 => match putAll ps vs env with
  | some env' => .nx env' t1
  | none => .bad
def sDrop (f : E) : S := fun env t => (f env t).toS fun _ t1 => .nx env t1
def sRaise (k : Nat) : S := fun _ t => .exc k t

/-- the frame's own list at a name -/
def ownL (i : Nat) (env : Env) : Option (List Val) := match env[i]? with
  | some (some (true, .lst xs)) => some xs
  | _ => none
def putL (i : Nat) (xs : List Val) (env : Env) : Env := env.set i (some (true, .lst xs))
/-- name.append(e) -/
def sApp (i : Nat) (f : E) : S := fun env t => match ownL i env with
  | some xs => (f env t).toS fun v t1 => if xs.length < lim then .nx (putL i (xs ++ [v]) env) t1 else .bad
  | none => .bad
/-- name.extend(e) -/
def sExt (i : Nat) (f : E) : S := fun env t => match ownL i env with
  | some xs => (f env t).toS fun v t1 => (match v with
    | .lst ys => if xs.length + ys.length ≤ lim then .nx (putL i (xs ++ ys) env) t1 else .bad
    | _ => .bad)
  | none => .bad
/-- an index as it stands in a list of n items -/
def ixOf (n : Nat) (i : Int) : Option Nat := if 0 ≤ i then (if i < n then some i.toNat else none) else if -(n : Int) ≤ i then some (i + n).toNat else none
/-- name[e] = f -/
def sSet (i : Nat) (ix f : E) : S := fun env t => match ownL i env with
  | some xs => (f env t).toS fun v t1 => (ix env t1).toS fun w t2 => (match w with
    | .int k => (match ixOf xs.length k with
      | some j => .nx (putL i (xs.set j v) env) t2
      | none => .bad)
    | _ => .bad)
  | none => .bad
/-- name[e] += f -/
def sAugIx (op : Val → Val → Option Val) (i : Nat) (ix f : E) : S := fun env t => match ownL i env with
  | some xs => (ix env t).toS fun w t1 => (match w with
    | .int k => (match ixOf xs.length k with
      | some j => (match xs[j]? with
        | some x => (f env t1).toS fun y t2 => (match op x y with
          | some z => .nx (putL i (xs.set j z) env) t2
          | none => .bad)
        | none => .bad)
      | none => .bad)
    | _ => .bad)
  | none => .bad
/-- name.pop() -/
def sPop (i : Nat) : S := fun env t => match ownL i env with
  | some xs => if xs = [] then .bad else .nx (putL i xs.dropLast env) t
  | none => .bad
/-- tin[k] = e -/
def sTin (i k : Nat) (f : E) : S := fun env t => (f env t).toS fun v t1 => match env[i]?, v with
  | some (some (false, .tin)), .int z => (match k with
    | 0 => .nx env { t1 with a := z }
    | 1 => .nx env { t1 with b := z }
    | 2 => .nx env { t1 with c := z }
    | _ => .bad)
  | _, _ => .bad

def forLoop (g : G) (body : S) : List Val → S
  | [], env, t => .nx env t
  | x :: xs, env, t => match g x env with
    | none => .bad
    | some env1 => match body env1 t with
      | .nx e t1 => forLoop g body xs e t1
      | .ct e t1 => forLoop g body xs e t1
      | .bk e t1 => .nx e t1
      | r => r
def sFor (it : It) (g : G) (body : S) : S := fun env t => (it env t).toS fun xs t1 => forLoop g body xs env t1

def whileN (c : T) (body : S) : Nat → S
  | 0, _, _ => .bad
  | n + 1, env, t => (c env t).toS fun b t1 => if b then (match body env t1 with
      | .nx e t2 => whileN c body n e t2
      | .ct e t2 => whileN c body n e t2
      | .bk e t2 => .nx e t2
      | r => r) else .nx env t1
/-- the most turns -/
abbrev fuel : Nat := 1000000000
def sWhile (c : T) (body : S) : S := whileN c body fuel

theorem whileN_mono (c : T) (body : S) : ∀ (n k : Nat) (env : Env) (t : Tin), whileN c body n env t ≠ .bad → whileN c body (n + k) env t = whileN c body n env t
  | 0, _, _, _, h => absurd rfl h
  | n + 1, k, env, t, h => by
    rw [Nat.add_right_comm n 1 k]
    unfold whileN at h ⊢
    cases hc : c env t with
    | bad => rfl
    | exc j t1 => rfl
    | ok b t1 =>
      rw [hc] at h
      simp only [Res.toS_ok] at h ⊢
      cases b with
      | false => rfl
      | true =>
        simp only [if_true] at h ⊢
        cases hb : body env t1 with
        | nx e t2 => rw [hb] at h; exact whileN_mono c body n k e t2 h
        | ct e t2 => rw [hb] at h; exact whileN_mono c body n k e t2 h
        | bk e t2 => rfl
        | rt v t2 => rfl
        | exc j t2 => rfl
        | bad => rfl

theorem sWhile_of {c : T} {body : S} {n : Nat} {env : Env} {t : Tin} {r : RS} (h : whileN c body n env t = r) (hr : r ≠ .bad) (hn : n ≤ fuel) : sWhile c body env t = r := by
  obtain ⟨k, hk⟩ := Nat.exists_eq_add_of_le hn
  unfold sWhile
  rw [hk, whileN_mono c body n k env t (by rw [h]; exact hr), h]

/-! ### a def -/
def env0 (n : Nat) (args : List Val) : Env := args.map (fun v => some (false, v)) ++ List.replicate (n - args.length) none
/-- p parameters, n slots -/
def runDef (p n : Nat) (s : S) (args : List Val) : M Val := fun t =>
  if args.length = p then (match s (env0 n args) t with
    | .rt v t' => .ok v t'
    | .nx _ t' => .ok .non t'
    | .exc k t' => .exc k t'
    | _ => .bad) else .bad

/-! ### tables by numbers -/
def dGet (k : Int) : List Int → List Val → Option Val
  | j :: ks, v :: vs => if j = k then some v else dGet k ks vs
  | _, _ => none
def dRep (k : Int) (w : Val) : List Int → List Val → List Val
  | j :: ks, v :: vs => (if j = k then w else v) :: dRep k w ks vs
  | _, vs => vs
def dHas (k : Int) (ks : List Int) : Bool := ks.any fun j => decide (j = k)
def dPut (k : Int) (w : Val) (ks : List Int) (vs : List Val) : List Int × List Val := if dHas k ks then (ks, dRep k w ks vs) else (ks ++ [k], vs ++ [w])
/-! ### operators -/
def bitsOk (i j : Int) : Bool := decide (i.natAbs.log2 + j.natAbs.log2 < 134000000)
def oAdd : Val → Val → Option Val
  | .int i, .int j => some (.int (i + j))
  | .tup xs, .tup ys => if xs.length + ys.length ≤ lim then some (.tup (xs ++ ys)) else none
  | .lst xs, .lst ys => if xs.length + ys.length ≤ lim then some (.lst (xs ++ ys)) else none
  | _, _ => none
def oSub : Val → Val → Option Val
  | .int i, .int j => some (.int (i - j))
  | _, _ => none
def rep (k : Int) (xs : List Val) : List Val := (List.replicate k.toNat xs).flatten
def oMul : Val → Val → Option Val
  | .int i, .int j => if bitsOk i j then some (.int (i * j)) else none
  | .tup xs, .int k => if xs ≠ [] ∧ k ≤ 1000 ∧ -1000 ≤ k ∧ xs.length ≤ 1000 then some (.tup (rep k xs)) else none
  | .lst xs, .int k => if k ≤ 1000 ∧ -1000 ≤ k ∧ xs.length ≤ 1000 then some (.lst (rep k xs)) else none
  | _, _ => none
def oMulL : Val → Val → Option Val
  | .lst xs, .int k => if k ≤ 1000 ∧ -1000 ≤ k ∧ xs.length ≤ 1000 then some (.lst (rep k xs)) else none
  | _, _ => none
def oDiv : Val → Val → Option Val
  | .int i, .int j => if j ≠ 0 ∧ j.natAbs.log2 < 9000 then some (.int (i.fdiv j)) else none
  | _, _ => none
def oMod : Val → Val → Option Val
  | .int i, .int j => if j ≠ 0 then some (.int (i.fmod j)) else none
  | _, _ => none
def oPow : Val → Val → Option Val
  | .int i, .int j => if 0 ≤ j ∧ j ≤ 1000 ∧ i.natAbs < 2 ^ 64 then some (.int (i ^ j.toNat)) else none
  | _, _ => none
def uNeg : Val → Option Val
  | .int i => some (.int (-i))
  | _ => none

/-! ### equality of data -/
mutual
/-- data: no table, no set, no function -/
def Val.data : Val → Bool
  | .non => true
  | .bl _ => true
  | .int _ => true
  | .str s => s.toList.all fun c => decide (c.toNat < 128)
  | .tup xs => dataL xs
  | .lst xs => dataL xs
  | _ => false
def dataL : List Val → Bool
  | [] => true
  | x :: xs => x.data && dataL xs
end
mutual
/-- Python's == of data -/
def veq : Val → Val → Bool
  | .non, .non => true
  | .bl a, .bl b => a == b
  | .int a, .int b => decide (a = b)
  | .bl a, .int b => decide ((if a then 1 else 0) = b)
  | .int a, .bl b => decide (a = (if b then 1 else 0))
  | .str a, .str b => decide (a = b)
  | .tup xs, .tup ys => veqL xs ys
  | .lst xs, .lst ys => veqL xs ys
  | _, _ => false
def veqL : List Val → List Val → Bool
  | [], [] => true
  | x :: xs, y :: ys => veq x y && veqL xs ys
  | _, _ => false
end
mutual
def Val.depth : Val → Nat
  | .tup xs => depthL xs + 1
  | .lst xs => depthL xs + 1
  | _ => 0
def depthL : List Val → Nat
  | [] => 0
  | x :: xs => max x.depth (depthL xs)
end
def cEq (v w : Val) : Option Val := if v.data && w.data && decide (v.depth ≤ 30) && decide (w.depth ≤ 30) then some (.bl (veq v w)) else none
def cNe (v w : Val) : Option Val := if v.data && w.data && decide (v.depth ≤ 30) && decide (w.depth ≤ 30) then some (.bl (!veq v w)) else none
def cLt : Val → Val → Option Val
  | .int i, .int j => some (.bl (decide (i < j)))
  | _, _ => none
def cLe : Val → Val → Option Val
  | .int i, .int j => some (.bl (decide (i ≤ j)))
  | _, _ => none
def cGt : Val → Val → Option Val
  | .int i, .int j => some (.bl (decide (j < i)))
  | _, _ => none
def cGe : Val → Val → Option Val
  | .int i, .int j => some (.bl (decide (j ≤ i)))
  | _, _ => none
def Val.isNon : Val → Bool
  | .non => true
  | _ => false
def cIsN (v : Val) : Option Val := some (.bl v.isNon)
def cNotN (v : Val) : Option Val := some (.bl (!v.isNon))
def oIsN (v w : Val) : Option Val := match w with
  | .non => cIsN v
  | _ => none
def oNotN (v w : Val) : Option Val := match w with
  | .non => cNotN v
  | _ => none
/-- x is True -/
def cIsB : Val → Val → Option Val
  | .bl a, .bl b => some (.bl (decide (a = b)))
  | _, _ => none
def cNotB : Val → Val → Option Val
  | .bl a, .bl b => some (.bl (!decide (a = b)))
  | _, _ => none
/-- a op b op' c -/
def eChain (op op' : Val → Val → Option Val) (f g h : E) : E := fun env t => (f env t).bind fun v t1 => (g env t1).bind fun w t2 => match op v w with
  | some (.bl true) => (h env t2).bind fun u t3 => (match op' w u with
    | some r => .ok r t3
    | none => .bad)
  | some (.bl false) => .ok (.bl false) t2
  | _ => .bad
/-- lists alone -/
def oAddL : Val → Val → Option Val
  | .lst xs, .lst ys => if xs.length + ys.length ≤ lim then some (.lst (xs ++ ys)) else none
  | _, _ => none
/-- x in xs, xs a list or a tuple of numbers -/
def flat : Val → Bool
  | .non => true
  | .bl _ => true
  | .int _ => true
  | .str _ => true
  | _ => false
def cIn (x ys : Val) : Option Val := match ys with
  | .dct ks vs => (match x with
    | .int k => some (.bl (dHas k ks))
    | _ => none)
  | _ => match items ys with
    | some xs => if flat x && xs.all flat then some (.bl (xs.any fun y => veq y x)) else none
    | none => none
def cNotIn (x ys : Val) : Option Val := match ys with
  | .dct ks vs => (match x with
    | .int k => some (.bl (!dHas k ks))
    | _ => none)
  | _ => match items ys with
    | some xs => if flat x && xs.all flat then some (.bl (!xs.any fun y => veq y x)) else none
    | none => none

/-! ### places and slices -/
def oIx : Val → Val → Option Val
  | .tup xs, .int i => (ixOf xs.length i).bind fun j => xs[j]?
  | .lst xs, .int i => (ixOf xs.length i).bind fun j => xs[j]?
  | .dct ks vs, .int i => dGet i ks vs
  | _, _ => none
/-- a bound of a slice in a list of n items -/
def slIx (n d : Nat) : Option Int → Nat
  | none => d
  | some i => if i < 0 then (i + n).toNat else min i.toNat n
def cut (xs : List Val) (lo hi : Option Int) : List Val := (xs.drop (slIx xs.length 0 lo)).take (slIx xs.length xs.length hi - slIx xs.length 0 lo)
def oSl (lo hi : Option Int) : Val → Option Val
  | .tup xs => some (.tup (cut xs lo hi))
  | .lst xs => some (.lst (cut xs lo hi))
  | .scr ns => some (.lst (cut (ns.map Val.int) lo hi))
  | _ => none
/-- an optional part of a slice -/
abbrev P : Type := Env → M (Option Int)
def pNo : P := fun _ t => .ok none t
def pAt (f : E) : P := fun env t => (f env t).bind fun v t1 => match v with
  | .int i => .ok (some i) t1
  | _ => .bad
def eSl (f : E) (lo hi : P) : E := fun env t => (f env t).bind fun v t1 => (lo env t1).bind fun a t2 => (hi env t2).bind fun b t3 => match oSl a b v with
  | some z => .ok z t3
  | none => .bad
/-- xs[::-1] -/
def oRev : Val → Option Val
  | .tup xs => some (.tup xs.reverse)
  | .lst xs => some (.lst xs.reverse)
  | _ => none

/-! ### built-ins -/
def intsOf : List Val → Option (List Int)
  | [] => some []
  | .int i :: r => (intsOf r).map (i :: ·)
  | _ => none
def boolsOf : List Val → Option (List Bool)
  | [] => some []
  | .bl i :: r => (boolsOf r).map (i :: ·)
  | _ => none
def bLen : List Val → Option Val
  | [.tup xs] => some (.int xs.length)
  | [.lst xs] => some (.int xs.length)
  | _ => none
def bAbs : List Val → Option Val
  | [.int i] => some (.int (if i < 0 then -i else i))
  | _ => none
def bMax : List Val → Option Val
  | [.int i, .int j] => some (.int (if j > i then j else i))
  | [.lst xs] => (intsOf xs).bind fun ns => match ns with
    | [] => none
    | n :: r => some (.int (r.foldl max n))
  | [.tup xs] => (intsOf xs).bind fun ns => match ns with
    | [] => none
    | n :: r => some (.int (r.foldl max n))
  | _ => none
def bMin : List Val → Option Val
  | [.int i, .int j] => some (.int (if j < i then j else i))
  | [.lst xs] => (intsOf xs).bind fun ns => match ns with
    | [] => none
    | n :: r => some (.int (r.foldl min n))
  | [.tup xs] => (intsOf xs).bind fun ns => match ns with
    | [] => none
    | n :: r => some (.int (r.foldl min n))
  | _ => none
def bSum : List Val → Option Val
  | [.lst xs] => (intsOf xs).map fun ns => .int ns.sum
  | _ => none
def bAll : List Val → Option Val
  | [.lst xs] => (boolsOf xs).map fun bs => .bl (bs.all id)
  | _ => none
def bAny : List Val → Option Val
  | [.lst xs] => (boolsOf xs).map fun bs => .bl (bs.any id)
  | _ => none
def bInt : List Val → Option Val
  | [.int i] => some (.int i)
  | [.bl b] => some (.int (if b then 1 else 0))
  | _ => none
def bList : List Val → Option Val
  | [.tup xs] => some (.lst xs)
  | [.lst xs] => some (.lst xs)
  | _ => none
def bTuple : List Val → Option Val
  | [.tup xs] => some (.tup xs)
  | [.lst xs] => some (.tup xs)
  | _ => none
/-- sorted(set(..)) of numbers -/
def insU (i : Int) : List Int → List Int
  | [] => [i]
  | j :: r => if i < j then i :: j :: r else if i = j then j :: r else j :: insU i r
def sortU (l : List Int) : List Int := l.foldr insU []
def bSet : List Val → Option Val
  | [.lst xs] => (intsOf xs).map fun ns => .iset (sortU ns)
  | [.tup xs] => (intsOf xs).map fun ns => .iset (sortU ns)
  | _ => none
def insI (i : Int) : List Int → List Int
  | [] => [i]
  | j :: r => if i ≤ j then i :: j :: r else j :: insI i r
def sortI (l : List Int) : List Int := l.foldr insI []
def bSorted : List Val → Option Val
  | [.iset ns] => some (.lst (ns.map .int))
  | [.lst xs] => (intsOf xs).map fun ns => .lst ((sortI ns).map .int)
  | [.dct ks _] => some (.lst ((sortI ks).map .int))
  | _ => none
/-- list(range(..)) -/
def eLRg1 (f : E) : E := fun env t => (f env t).bind fun v t1 => match v with
  | .int n => if -lim ≤ n ∧ n ≤ lim then .ok (.lst (rangeL 0 n)) t1 else .bad
  | _ => .bad
def eLRg2 (f g : E) : E := fun env t => (f env t).bind fun v t1 => (g env t1).bind fun w t2 => match v, w with
  | .int m, .int n => if -lim ≤ m ∧ m ≤ lim ∧ -lim ≤ n ∧ n ≤ lim then .ok (.lst (rangeL m n)) t2 else .bad
  | _, _ => .bad

/-- sorted(set(..)) of few numbers -/
def eSortSet (f : E) : E := fun env t => (f env t).bind fun v t1 => match v with
  | .lst xs => (match intsOf xs with
    | some ns => if ns.length < 64 then .ok (.lst ((sortU ns).map .int)) t1 else .bad
    | none => .bad)
  | _ => .bad

def ownD (i : Nat) (env : Env) : Option (List Int × List Val) := match env[i]? with
  | some (some (true, .dct ks vs)) => some (ks, vs)
  | _ => none
def putD (i : Nat) (d : List Int × List Val) (env : Env) : Env := env.set i (some (true, .dct d.1 d.2))
/-- tuples of numbers, sorted -/
def ltL : List Int → List Int → Bool
  | [], [] => false
  | [], _ :: _ => true
  | _ :: _, [] => false
  | x :: xs, y :: ys => if x = y then ltL xs ys else decide (x < y)
def insT (x : List Int) : List (List Int) → List (List Int)
  | [] => [x]
  | y :: l => if ltL y x then y :: insT x l else x :: y :: l
def sortT (l : List (List Int)) : List (List Int) := l.foldr insT []
def tupsI : List Val → Option (List (List Int))
  | [] => some []
  | .tup xs :: r => (match intsOf xs, tupsI r with
    | some ns, some ms => some (ns :: ms)
    | _, _ => none)
  | _ :: _ => none
def eSortT (f : E) : E := fun env t => (f env t).bind fun v t1 => match v with
  | .lst xs => (match tupsI xs with
    | some ls => if ls.all (fun l => decide (1 ≤ l.length ∧ l.length = (ls.headD []).length)) then .ok (.lst ((sortT ls).map fun l => .tup (l.map .int))) t1 else .bad
    | none => .bad)
  | _ => .bad
/-- {} -/
def eDNew : E := fun _ t => .ok (.dct [] []) t
/-- sorted(d), a table by few numbers -/
def eSortD (f : E) : E := fun env t => (f env t).bind fun v t1 => match v with
  | .dct ks _ => if ks.length < 64 then .ok (.lst ((sortI ks).map .int)) t1 else .bad
  | _ => .bad
/-- name[e] = f, a table -/
def sDSet (i : Nat) (ix f : E) : S := fun env t => match ownD i env with
  | some d => (f env t).toS fun v t1 => (ix env t1).toS fun w t2 => (match w with
    | .int k => if d.1.length < lim then .nx (putD i (dPut k v d.1 d.2) env) t2 else .bad
    | _ => .bad)
  | none => .bad
/-- name.setdefault(e, f) -/
def sDDef (i : Nat) (ix f : E) : S := fun env t => match ownD i env with
  | some d => (ix env t).toS fun w t1 => (f env t1).toS fun v t2 => (match w with
    | .int k => if d.1.length < lim then .nx (if dHas k d.1 then env else putD i (d.1 ++ [k], d.2 ++ [v]) env) t2 else .bad
    | _ => .bad)
  | none => .bad

/-- for x in xs: name.setdefault(key, []).append(x) -/
def grpAt (k : Int) (x : Val) : List Int → List (List Val) → List (List Val)
  | j :: ks, l :: ls => if j = k then (l ++ [x]) :: ls else l :: grpAt k x ks ls
  | _, ls => ls
def lotsLoop (i j : Nat) (fk : E) : List Val → List Int → List (List Val) → S
  | [], ks, ls, env, t => .nx (env.set i (some (true, .dct ks (ls.map .lst)))) t
  | x :: xs, ks, ls, env, t => if j < env.length ∧ (ls.all fun l => decide (l.length < lim)) ∧ ks.length < lim then (fk (env.set j (some (false, x))) t).toS fun v t1 => (match v with
    | .int k => if dHas k ks then lotsLoop i j fk xs ks (grpAt k x ks ls) (env.set j (some (false, x))) t1 else lotsLoop i j fk xs (ks ++ [k]) (ls ++ [[x]]) (env.set j (some (false, x))) t1
    | _ => .bad) else .bad
def sForLots (it : It) (i j : Nat) (fk : E) : S := fun env t => (it env t).toS fun xs t1 => match ownD i env with
  | some ([], []) => lotsLoop i j fk xs [] [] (env.set i none) t1
  | _ => .bad

/-! ### isinstance -/
inductive Ty where
  | int | bool | str | tuple | list
  deriving DecidableEq
def Val.isa : Val → Ty → Option Bool
  | .non, _ => some false
  | .bl _, .int => some true
  | .bl _, .bool => some true
  | .bl _, _ => some false
  | .int _, .int => some true
  | .int _, _ => some false
  | .str _, .str => some true
  | .str _, _ => some false
  | .tup _, .tuple => some true
  | .tup _, _ => some false
  | .lst _, .list => some true
  | .lst _, _ => some false
  | _, _ => none
def uIsa (ty : Ty) (v : Val) : Option Val := (v.isa ty).map .bl
def uIsa2 (t1 t2 : Ty) (v : Val) : Option Val := (v.isa t1).bind fun a => (v.isa t2).map fun b => .bl (a || b)

/-! ### tables by numbers, a name's own -/
end Nf

namespace Nf
open PySem PySem.Spec PyProof.Rows L2

/-- what stands where: the written part, the list of draws, the defs -/
structure Cz where
  K : PySem.W.Frag
  ta : Option Addr
  fa : Nat → Addr

abbrev Lk : Type := Addr → Prop

mutual
/-- a structural value and a value of the heap; L: the lists that stay as they are -/
def Rv (z : Cz) (L : Lk) (H : Hp) : Val → V → Prop
  | .non, x => x = .non
  | .bl b, x => x = .bl b
  | .int i, x => x = .int i
  | .str s, x => x = .str (Str.ofString s)
  | .tup vs, x => ∃ a ys, x = .ref a ∧ SqT z.K H a ys ∧ Rvs z L H vs ys
  | .lst vs, x => ∃ a ys, x = .ref a ∧ L a ∧ H a = some (.lst ys) ∧ Rvs z L H vs ys
  | .iset _, _ => False
  | .dct ks vs, x => ∃ a zs, x = .ref a ∧ L a ∧ H a = some (.dK zs) ∧ zs.map (·.1) = ks.map Sum.inl ∧ Rvs z L H vs (zs.map (·.2))
  | .tin, x => ∃ a, z.ta = some a ∧ x = .ref a
  | .fn k, x => x = .ref (z.fa k)
  | .scr ns, x => ∃ a, x = .ref a ∧ ((∃ ob, H a = some (.frz ob (.lst (ns.map V.int)))) ∨ SqL z.K (fun _ => Option.none) a (ns.map V.int))
def Rvs (z : Cz) (L : Lk) (H : Hp) : List Val → List V → Prop
  | [], ys => ys = []
  | v :: vs, ys => ∃ y r, ys = y :: r ∧ Rv z L H v y ∧ Rvs z L H vs r
end

/-- what is locked, what never changes is kept -/
def Keep (L : Lk) (H : Hp) (L' : Lk) (H' : Hp) : Prop :=
  (∀ a, L a → L' a) ∧ ∀ a o, H a = some o → (L a ∨ (∃ xs, o = .tup xs) ∨ ∃ ob u, o = .frz ob u) → H' a = some o

theorem Keep.refl (L : Lk) (H : Hp) : Keep L H L H := ⟨fun _ h => h, fun _ _ h _ => h⟩
theorem Keep.trans {L H L' H' L'' H''} (a : Keep L H L' H') (b : Keep L' H' L'' H'') : Keep L H L'' H'' :=
  ⟨fun x h => b.1 x (a.1 x h), fun x o h c => b.2 x o (a.2 x o h c) (by
    rcases c with c | c | c
    · exact .inl (a.1 x c)
    · exact .inr (.inl c)
    · exact .inr (.inr c))⟩

theorem Keep.rdT {L H L' H'} (k : Keep L H L' H') {a : Addr} {ys : List V} (h : Rd H a (.tup ys)) : Rd H' a (.tup ys) := by
  rcases h with h | ⟨o, h⟩
  · exact .inl (k.2 a _ h (.inr (.inl ⟨_, rfl⟩)))
  · exact .inr ⟨o, k.2 a _ h (.inr (.inr ⟨_, _, rfl⟩))⟩
theorem Keep.sqT {z : Cz} {L H L' H'} (k : Keep L H L' H') {a : Addr} {ys : List V} (h : SqT z.K H a ys) : SqT z.K H' a ys := by
  rcases h with h | h
  · exact .inl (k.rdT h)
  · exact .inr h
mutual
theorem Rv.keep {z : Cz} {L H L' H'} (k : Keep L H L' H') : ∀ (v : Val) {x : V}, Rv z L H v x → Rv z L' H' v x
  | .non, _, h => by simpa [Rv] using h
  | .bl b, _, h => by simpa [Rv] using h
  | .int i, _, h => by simpa [Rv] using h
  | .str s, _, h => by simpa [Rv] using h
  | .tup vs, _, h => by
    simp only [Rv] at h ⊢
    obtain ⟨a, ys, e, h1, h2⟩ := h
    exact ⟨a, ys, e, k.sqT h1, Rvs.keep k vs h2⟩
  | .lst vs, _, h => by
    simp only [Rv] at h ⊢
    obtain ⟨a, ys, e, l, h1, h2⟩ := h
    exact ⟨a, ys, e, k.1 a l, k.2 a _ h1 (.inl l), Rvs.keep k vs h2⟩
  | .iset _, _, h => by simp only [Rv] at h
  | .dct ks vs, _, h => by
    simp only [Rv] at h ⊢
    obtain ⟨a, zs, e, l, h1, h2, h3⟩ := h
    exact ⟨a, zs, e, k.1 a l, k.2 a _ h1 (.inl l), h2, Rvs.keep k vs h3⟩
  | .tin, _, h => by simpa [Rv] using h
  | .fn _, _, h => by simpa [Rv] using h
  | .scr ns, _, h => by
    simp only [Rv] at h ⊢
    obtain ⟨a, e, h⟩ := h
    refine ⟨a, e, ?_⟩
    rcases h with ⟨ob, h⟩ | h
    · exact .inl ⟨ob, k.2 a _ h (.inr (.inr ⟨_, _, rfl⟩))⟩
    · exact .inr h
theorem Rvs.keep {z : Cz} {L H L' H'} (k : Keep L H L' H') : ∀ (vs : List Val) {ys : List V}, Rvs z L H vs ys → Rvs z L' H' vs ys
  | [], _, h => by simpa [Rvs] using h
  | v :: vs, _, h => by
    simp only [Rvs] at h ⊢
    obtain ⟨y, r, e, h1, h2⟩ := h
    exact ⟨y, r, e, Rv.keep k v h1, Rvs.keep k vs h2⟩
end

section
variable {z : Cz} {L : Lk} {H : Hp}
theorem Rvs.nil : Rvs z L H [] [] := by simp [Rvs]
theorem Rvs.cons {v : Val} {vs : List Val} {y : V} {ys : List V} (h : Rv z L H v y) (t : Rvs z L H vs ys) : Rvs z L H (v :: vs) (y :: ys) := by
  simp only [Rvs]; exact ⟨y, ys, rfl, h, t⟩
theorem Rvs.len : ∀ {vs : List Val} {ys : List V}, Rvs z L H vs ys → ys.length = vs.length
  | [], _, h => by simp only [Rvs] at h; rw [h]; rfl
  | v :: vs, _, h => by
    simp only [Rvs] at h
    obtain ⟨y, r, rfl, _, h2⟩ := h
    simp [Rvs.len h2]
theorem Rvs.get : ∀ {vs : List Val} {ys : List V} {i : Nat} {v : Val}, Rvs z L H vs ys → vs[i]? = some v → ∃ y, ys[i]? = some y ∧ Rv z L H v y
  | [], _, _, _, _, e => by simp at e
  | w :: vs, _, i, v, h, e => by
    simp only [Rvs] at h
    obtain ⟨y, r, rfl, h1, h2⟩ := h
    cases i with
    | zero => simp at e; subst e; exact ⟨y, rfl, h1⟩
    | succ i =>
      obtain ⟨y', e1, h3⟩ := Rvs.get (i := i) h2 (by simpa using e)
      exact ⟨y', by simpa using e1, h3⟩
theorem Rvs.append : ∀ {vs ws : List Val} {ys us : List V}, Rvs z L H vs ys → Rvs z L H ws us → Rvs z L H (vs ++ ws) (ys ++ us)
  | [], _, _, _, h, g => by simp only [Rvs] at h; subst h; exact g
  | v :: vs, ws, _, us, h, g => by
    simp only [Rvs] at h
    obtain ⟨y, r, rfl, h1, h2⟩ := h
    exact Rvs.cons h1 (Rvs.append h2 g)
theorem Rvs.set : ∀ {vs : List Val} {ys : List V} {v : Val} {y : V} (i : Nat), Rv z L H v y → Rvs z L H vs ys → Rvs z L H (vs.set i v) (ys.set i y)
  | [], _, _, _, _, _, h => by simp only [Rvs] at h; subst h; exact Rvs.nil
  | w :: vs, _, v, y, i, hv, h => by
    simp only [Rvs] at h
    obtain ⟨y', r, rfl, h1, h2⟩ := h
    cases i with
    | zero => exact Rvs.cons hv h2
    | succ i => exact Rvs.cons h1 (Rvs.set i hv h2)
theorem Rvs.drop : ∀ {vs : List Val} {ys : List V} (n : Nat), Rvs z L H vs ys → Rvs z L H (vs.drop n) (ys.drop n)
  | _, _, 0, h => h
  | [], _, n + 1, h => by simp only [Rvs] at h; subst h; exact Rvs.nil
  | v :: vs, _, n + 1, h => by
    simp only [Rvs] at h
    obtain ⟨y, r, rfl, h1, h2⟩ := h
    exact Rvs.drop n h2
theorem Rvs.take : ∀ {vs : List Val} {ys : List V} (n : Nat), Rvs z L H vs ys → Rvs z L H (vs.take n) (ys.take n)
  | _, _, 0, _ => by simp [Rvs]
  | [], _, n + 1, h => by simp only [Rvs] at h; subst h; exact Rvs.nil
  | v :: vs, _, n + 1, h => by
    simp only [Rvs] at h
    obtain ⟨y, r, rfl, h1, h2⟩ := h
    exact Rvs.cons h1 (Rvs.take n h2)
theorem Rvs.reverse : ∀ {vs : List Val} {ys : List V}, Rvs z L H vs ys → Rvs z L H vs.reverse ys.reverse
  | [], _, h => by simp only [Rvs] at h; subst h; exact Rvs.nil
  | v :: vs, _, h => by
    simp only [Rvs] at h
    obtain ⟨y, r, rfl, h1, h2⟩ := h
    rw [List.reverse_cons, List.reverse_cons]
    exact Rvs.append (Rvs.reverse h2) (Rvs.cons h1 Rvs.nil)
theorem Rvs.flat : ∀ {vs : List Val} {ys : List V} (n : Nat), Rvs z L H vs ys → Rvs z L H (List.replicate n vs).flatten (List.replicate n ys).flatten
  | _, _, 0, _ => by simp [Rvs]
  | vs, ys, n + 1, h => by
    rw [List.replicate_succ, List.replicate_succ, List.flatten_cons, List.flatten_cons]
    exact Rvs.append h (Rvs.flat n h)
theorem Rvs.intsOf : ∀ {vs : List Val} {ys : List V} {ns : List Int}, Rvs z L H vs ys → Nf.intsOf vs = some ns → ys = ns.map V.int
  | [], _, ns, h, e => by
    simp only [Rvs] at h; subst h
    simp only [Nf.intsOf, Option.some.injEq] at e; subst e; rfl
  | .int i :: vs, _, ns, h, e => by
    simp only [Rvs, Rv] at h
    obtain ⟨y, r, rfl, rfl, h2⟩ := h
    simp only [Nf.intsOf, Option.map_eq_some_iff] at e
    obtain ⟨ms, e1, rfl⟩ := e
    rw [Rvs.intsOf h2 e1]; rfl
  | .non :: _, _, _, _, e => by simp [Nf.intsOf] at e
  | .bl _ :: _, _, _, _, e => by simp [Nf.intsOf] at e
  | .str _ :: _, _, _, _, e => by simp [Nf.intsOf] at e
  | .tup _ :: _, _, _, _, e => by simp [Nf.intsOf] at e
  | .lst _ :: _, _, _, _, e => by simp [Nf.intsOf] at e
  | .iset _ :: _, _, _, _, e => by simp [Nf.intsOf] at e
  | .dct _ _ :: _, _, _, _, e => by simp [Nf.intsOf] at e
  | .tin :: _, _, _, _, e => by simp [Nf.intsOf] at e
  | .fn _ :: _, _, _, _, e => by simp [Nf.intsOf] at e
  | .scr _ :: _, _, _, _, e => by simp [Nf.intsOf] at e
theorem Rvs.boolsOf : ∀ {vs : List Val} {ys : List V} {ns : List Bool}, Rvs z L H vs ys → Nf.boolsOf vs = some ns → ys = ns.map V.bl
  | [], _, ns, h, e => by
    simp only [Rvs] at h; subst h
    simp only [Nf.boolsOf, Option.some.injEq] at e; subst e; rfl
  | .bl i :: vs, _, ns, h, e => by
    simp only [Rvs, Rv] at h
    obtain ⟨y, r, rfl, rfl, h2⟩ := h
    simp only [Nf.boolsOf, Option.map_eq_some_iff] at e
    obtain ⟨ms, e1, rfl⟩ := e
    rw [Rvs.boolsOf h2 e1]; rfl
  | .non :: _, _, _, _, e => by simp [Nf.boolsOf] at e
  | .int _ :: _, _, _, _, e => by simp [Nf.boolsOf] at e
  | .str _ :: _, _, _, _, e => by simp [Nf.boolsOf] at e
  | .tup _ :: _, _, _, _, e => by simp [Nf.boolsOf] at e
  | .lst _ :: _, _, _, _, e => by simp [Nf.boolsOf] at e
  | .iset _ :: _, _, _, _, e => by simp [Nf.boolsOf] at e
  | .dct _ _ :: _, _, _, _, e => by simp [Nf.boolsOf] at e
  | .tin :: _, _, _, _, e => by simp [Nf.boolsOf] at e
  | .fn _ :: _, _, _, _, e => by simp [Nf.boolsOf] at e
  | .scr _ :: _, _, _, _, e => by simp [Nf.boolsOf] at e
theorem Rvs.ofInts : ∀ (ns : List Int), Rvs z L H (ns.map Val.int) (ns.map V.int)
  | [] => Rvs.nil
  | n :: ns => Rvs.cons (by simp [Rv]) (Rvs.ofInts ns)
end

/-! ### the state behind a step -/
/-- the locked lists are there; the list of draws holds t -/
def Ok (z : Cz) (L : Lk) (H : Hp) (t : Tin) : Prop :=
  (∀ a, L a → ∃ o, H a = some o) ∧ ∀ a, z.ta = some a → ¬ L a ∧ H a = some (.lst [.int t.a, .int t.b, .int t.c])
/-- all but the list of draws stays; what is newly locked is new -/
structure Go (z : Cz) (L : Lk) (H : Hp) (t : Tin) (L' : Lk) (H' : Hp) (t' : Tin) : Prop where
  pre : Ok z L H t
  ok : Ok z L' H' t'
  up : ∀ a, L a → L' a
  new : ∀ a, L' a → L a ∨ H a = none
  stay : ∀ a o, H a = some o → z.ta ≠ some a → H' a = some o

section
variable {z : Cz} {L L' L'' : Lk} {H H' H'' : Hp} {t t' t'' : Tin}
theorem Go.refl (h : Ok z L H t) : Go z L H t L H t := ⟨h, h, fun _ h => h, fun _ h => .inl h, fun _ _ h _ => h⟩
theorem Go.there (g : Go z L H t L' H' t') {a : Addr} {o : HO} (h : H a = some o) : ∃ o', H' a = some o' := by
  by_cases e : z.ta = some a
  · exact ⟨_, (g.ok.2 a e).2⟩
  · exact ⟨o, g.stay a o h e⟩
theorem Go.free (g : Go z L H t L' H' t') {a : Addr} (h : H' a = none) : H a = none := by
  cases e : H a with
  | none => rfl
  | some o =>
    obtain ⟨o', e'⟩ := g.there e
    rw [h] at e'; cases e'
theorem Go.trans (a : Go z L H t L' H' t') (b : Go z L' H' t' L'' H'' t'') : Go z L H t L'' H'' t'' :=
  ⟨a.pre, b.ok, fun x h => b.up x (a.up x h), fun x h => by
    rcases b.new x h with h | h
    · exact a.new x h
    · exact .inr (a.free h), fun x o h e => b.stay x o (a.stay x o h e) e⟩
theorem Go.keep (g : Go z L H t L' H' t') : Keep L H L' H' := by
  refine ⟨g.up, fun a o h c => g.stay a o h fun e => ?_⟩
  have q := g.pre.2 a e
  rcases c with c | ⟨xs, c⟩ | ⟨ob, u, c⟩
  · exact q.1 c
  · rw [q.2] at h; cases h; cases c
  · rw [q.2] at h; cases h; cases c
/-- a new object -/
theorem Go.upd (h : Ok z L H t) {p : Addr} {o : HO} (hp : H p = none) : Go z L H t L (L2.upd H p o) t := by
  have ne : ∀ a u, H a = some u → a ≠ p := fun a u e q => by subst q; rw [hp] at e; cases e
  have st : ∀ a u, H a = some u → L2.upd H p o a = some u := fun a u e => by rw [upd_ne (ne a u e)]; exact e
  refine ⟨h, ⟨fun a l => ?_, fun a e => ?_⟩, fun _ h => h, fun _ h => .inl h, fun a u e _ => st a u e⟩
  · obtain ⟨u, e⟩ := h.1 a l
    exact ⟨u, st a u e⟩
  · exact ⟨(h.2 a e).1, st a _ (h.2 a e).2⟩
/-- a new list, locked at once -/
def lockAt (L : Lk) (p : Addr) : Lk := fun a => L a ∨ a = p
theorem Go.lock (g : Go z L H t L' H' t') {p : Addr} {o : HO} (hp : H p = Option.none) (hq : H' p = some o) (ht : z.ta ≠ some p) : Go z L H t (lockAt L' p) H' t' := by
  refine ⟨g.pre, ⟨fun a l => ?_, fun a e => ⟨fun l => ?_, (g.ok.2 a e).2⟩⟩, fun a l => .inl (g.up a l), fun a l => ?_, g.stay⟩
  · rcases l with l | l
    · exact g.ok.1 a l
    · rw [l]; exact ⟨o, hq⟩
  · rcases l with l | l
    · exact (g.ok.2 a e).1 l
    · rw [l] at e; exact ht e
  · rcases l with l | l
    · exact g.new a l
    · rw [l]; exact .inr hp
theorem Keep.lock {p : Addr} : Keep L H (lockAt L p) H := ⟨fun _ h => .inl h, fun _ _ h _ => h⟩
theorem Ok.ta_ne (h : Ok z L H t) {p : Addr} (hp : H p = Option.none) : z.ta ≠ some p := fun e => by
  have := (h.2 p e).2
  rw [hp] at this; cases this
end

/-! ### a frame -/
/-- a list of the frame's own -/
def OwnV (z : Cz) (L : Lk) (H : Hp) (v : Val) (a : Addr) : Prop :=
  match v with
  | .lst xs => ∃ ys, H a = some (.lst ys) ∧ Rvs z L H xs ys
  | .dct ks vs => ∃ zs, H a = some (.dK zs) ∧ zs.map (·.1) = ks.map Sum.inl ∧ Rvs z L H vs (zs.map (·.2))
  | _ => False
structure RelS (z : Cz) (L0 : Lk) (H0 : Hp) (t0 : Tin) (L : Lk) (env : Env) (t : Tin) (σ : List (Option V)) (H : Hp) : Prop where
  base : (∀ a, L0 a → L a) ∧ (∀ a, L a → L0 a ∨ H0 a = none) ∧ (∀ a o, H0 a = some o → z.ta ≠ some a → H a = some o) ∧ Ok z L0 H0 t0
  ok : Ok z L H t
  len : env.length = σ.length
  val : ∀ (i : Nat) (v : Val), env[i]? = some (some (false, v)) → ∃ x, σ[i]? = some (some x) ∧ Rv z L H v x
  own : ∃ oa : Nat → Addr, (∀ (i : Nat) (v : Val), env[i]? = some (some (true, v)) → σ[i]? = some (some (.ref (oa i))) ∧ ¬ L (oa i) ∧ H0 (oa i) = none ∧ z.ta ≠ some (oa i) ∧ OwnV z L H v (oa i)) ∧
    ∀ (i j : Nat) (v w : Val), env[i]? = some (some (true, v)) → env[j]? = some (some (true, w)) → i ≠ j → oa i ≠ oa j

section
variable {z : Cz} {L0 L L' : Lk} {H0 H H' : Hp} {t0 t t' : Tin} {env : Env} {σ : List (Option V)}
theorem OwnV.keep {v : Val} {a : Addr} (k : Keep L H L' H') (e : ∀ o, H a = some o → H' a = some o) (h : OwnV z L H v a) : OwnV z L' H' v a := by
  cases v <;> try exact h
  · obtain ⟨ys, h1, h2⟩ := h
    exact ⟨ys, e _ h1, Rvs.keep k _ h2⟩
  · obtain ⟨zs, h1, h2, h3⟩ := h
    exact ⟨zs, e _ h1, h2, Rvs.keep k _ h3⟩
theorem OwnV.there {v : Val} {a : Addr} (h : OwnV z L H v a) : ∃ o, H a = some o := by
  cases v <;> first | exact h.elim | skip
  · obtain ⟨ys, h1, _⟩ := h
    exact ⟨_, h1⟩
  · obtain ⟨zs, h1, _⟩ := h
    exact ⟨_, h1⟩
/-- an own one is given away -/
theorem OwnV.rv {v : Val} {a : Addr} (h : OwnV z L H v a) (l : L a) : Rv z L H v (.ref a) := by
  cases v <;> first | exact h.elim | skip
  · obtain ⟨ys, h1, h2⟩ := h
    simp only [Rv]
    exact ⟨a, ys, rfl, l, h1, h2⟩
  · obtain ⟨zs, h1, h2, h3⟩ := h
    simp only [Rv]
    exact ⟨a, zs, rfl, l, h1, h2, h3⟩
theorem RelS.base' (r : RelS z L0 H0 t0 L env t σ H) : Go z L0 H0 t0 L H t := ⟨r.base.2.2.2, r.ok, r.base.1, r.base.2.1, r.base.2.2.1⟩
theorem RelS.go (r : RelS z L0 H0 t0 L env t σ H) (g : Go z L H t L' H' t') : RelS z L0 H0 t0 L' env t' σ H' where
  base := by
    have q := r.base'.trans g
    exact ⟨q.up, q.new, q.stay, q.pre⟩
  ok := g.ok
  len := r.len
  val := fun i v e => by
    obtain ⟨x, e1, h1⟩ := r.val i v e
    exact ⟨x, e1, Rv.keep g.keep v h1⟩
  own := by
    obtain ⟨oa, h1, h2⟩ := r.own
    refine ⟨oa, fun i v e => ?_, h2⟩
    obtain ⟨e1, n1, n2, n3, o⟩ := h1 i v e
    refine ⟨e1, fun l => ?_, n2, n3, o.keep g.keep fun u eu => g.stay _ u eu n3⟩
    rcases g.new _ l with l | l
    · exact n1 l
    · obtain ⟨u, eu⟩ := o.there
      rw [l] at eu; cases eu
end

/-! ### readings -/
/-- how a value is handed on: R L H L' H' v x -/
abbrev Rr : Type := Lk → Hp → Lk → Hp → Val → V → Prop
/-- for good -/
def RE (z : Cz) : Rr := fun _ _ L' H' v x => Rv z L' H' v x
/-- for a look: its list may change later -/
def RO (z : Cz) : Rr := fun _ _ L' H' v x => Rv z L' H' v x ∨ ∃ a, x = .ref a ∧ z.ta ≠ some a ∧ OwnV z L' H' v a
/-- a new list -/
def RN (z : Cz) : Rr := fun _ H L' H' v x => ∃ a, x = .ref a ∧ H a = none ∧ ¬ L' a ∧ OwnV z L' H' v a
/-- a relation that may start earlier -/
structure RBack (z : Cz) (R : Rr) : Prop where
  go : ∀ {L H t L1 H1 t1 L' H' v x}, Go z L H t L1 H1 t1 → R L1 H1 L' H' v x → R L H L' H' v x
theorem RE.back {z : Cz} : RBack z (RE z) := ⟨fun _ h => h⟩
theorem RO.back {z : Cz} : RBack z (RO z) := ⟨fun _ h => h⟩
theorem RN.back {z : Cz} : RBack z (RN z) := ⟨fun g ⟨a, e1, h, r⟩ => ⟨a, e1, g.free h, r⟩⟩

abbrev Wx : Type := Nat → Hp → Prop
def rd (z : Cz) (W : Wx) (R : Rr) (f : E) : TE := fun σ H Q => ∃ L0 H0 t0 L env t, RelS z L0 H0 t0 L env t σ H ∧ match f env t with
  | .ok v t' => ∀ x H' L', Go z L H t L' H' t' → R L H L' H' v x → Q x H'
  | .exc k t' => ∀ H' L', Go z L H t L' H' t' → W k H'
  | .bad => False
def rdT (z : Cz) (W : Wx) (c : T) : TT := fun σ H Q => ∃ L0 H0 t0 L env t, RelS z L0 H0 t0 L env t σ H ∧ match c env t with
  | .ok b t' => ∀ H' L', Go z L H t L' H' t' → Q b H'
  | .exc k t' => ∀ H' L', Go z L H t L' H' t' → W k H'
  | .bad => False
/-- several values -/
def Rs (R : Rr) (L : Lk) (H : Hp) (L' : Lk) (H' : Hp) : List Val → List V → Prop
  | [], ys => ys = []
  | v :: vs, ys => ∃ y r, ys = y :: r ∧ R L H L' H' v y ∧ Rs R L H L' H' vs r
def rdA (z : Cz) (W : Wx) (R : Rr) (a : A) : TA := fun σ H Q => ∃ L0 H0 t0 L env t, RelS z L0 H0 t0 L env t σ H ∧ match a env t with
  | .ok vs t' => ∀ xs H' L', Go z L H t L' H' t' → Rs R L H L' H' vs xs → Q xs H'
  | .exc k t' => ∀ H' L', Go z L H t L' H' t' → W k H'
  | .bad => False
end Nf
namespace L2
theorem PE.imp {X : Cx} {e : PySem.Expr} {t t' : TE} (h : PE X e t) (i : ∀ σ H Q, t' σ H Q → t σ H Q) : PE X e t' := ⟨fun pins s σ H Q I q => h.run pins s σ H Q I (i σ H Q q)⟩
theorem PT.imp {X : Cx} {e : PySem.Expr} {t t' : TT} (h : PT X e t) (i : ∀ σ H Q, t' σ H Q → t σ H Q) : PT X e t' := ⟨fun pins s σ H Q I q => h.run pins s σ H Q I (i σ H Q q)⟩
theorem PW.imp {X : Cx} {e : PySem.Expr} {t t' : TT} (h : PW X e t) (i : ∀ σ H Q, t' σ H Q → t σ H Q) : PW X e t' := ⟨fun w pins s σ H Q I q => h.run w pins s σ H Q I (i σ H Q q)⟩
theorem PA.imp {X : Cx} {e : List PySem.Expr} {t t' : TA} (h : PA X e t) (i : ∀ σ H Q, t' σ H Q → t σ H Q) : PA X e t' := ⟨fun p pins s σ H Q I q => h.run p pins s σ H Q I (i σ H Q q)⟩
theorem PS.imp {X : Cx} {e : PySem.Stmt} {t t' : TS} (h : PS X e t) (i : ∀ D σ H, t' D σ H → t D σ H) : PS X e t' := ⟨fun pins s σ H D I q => h.run pins s σ H D I (i D σ H q)⟩
theorem PSs.imp {X : Cx} {e : List PySem.Stmt} {t t' : TS} (h : PSs X e t) (i : ∀ D σ H, t' D σ H → t D σ H) : PSs X e t' := ⟨fun pins s σ H D I q => h.run pins s σ H D I (i D σ H q)⟩
theorem PI.imp {X : Cx} {tg e : PySem.Expr} {t t' : TI} (h : PI X tg e t) (i : ∀ σ H Q, t' σ H Q → t σ H Q) : PI X tg e t' := ⟨fun pins s σ H Q I q => h.run pins s σ H Q I (i σ H Q q)⟩
theorem PG.imp {X : Cx} {tg : PySem.Expr} {t t' : TG} (h : PG X tg t) (i : ∀ v σ H Q, t' v σ H Q → t v σ H Q) : PG X tg t' := ⟨fun pins s σ H v u Q I r q => h.run pins s σ H v u Q I r (i v σ H Q q)⟩
end L2

namespace Nf
open PySem PySem.Spec PyProof.Rows L2

/-- the frame suits z -/
class Fit (z : Cz) (X : Cx) : Prop where
  K : X.K = z.K
  calm : X.calm = true
  hu : X.A.units + 70 < cLine
instance Fit.blk {z : Cz} {X : Cx} [F : Fit z X] {s : Shared} {H : Hp} {scope : Scope} {cenv : PySem.Env} {fp : List Addr} : Fit z (X.blk s H scope cenv fp) := ⟨F.K, F.calm, F.hu⟩

section
variable {z : Cz} {W : Wx} {X : Cx} {R : Rr}

/-! ### coercions -/
theorem RN.lock {L L' : Lk} {H H' : Hp} {t t' : Tin} {v : Val} {x : V} (g : Go z L H t L' H' t') (r : RN z L H L' H' v x) :
    ∃ L'', Go z L H t L'' H' t' ∧ Rv z L'' H' v x := by
  obtain ⟨a, rfl, ha, _, r⟩ := r
  obtain ⟨o, ho⟩ := r.there
  exact ⟨lockAt L' a, g.lock ha ho (g.pre.ta_ne ha), (r.keep Keep.lock fun _ h => h).rv (.inr rfl)⟩
theorem rdEN {f : E} {σ H Q} (h : rd z W (RE z) f σ H Q) : rd z W (RN z) f σ H Q := by
  obtain ⟨L0, H0, t0, L, env, t, r, h⟩ := h
  refine ⟨L0, H0, t0, L, env, t, r, ?_⟩
  cases e : f env t with
  | bad => rw [e] at h; exact h
  | exc k t' => rw [e] at h; exact h
  | ok v t' =>
    rw [e] at h
    intro x H' L' g rn
    obtain ⟨L'', g', r'⟩ := rn.lock g
    exact h x H' L'' g' r'
theorem rdOE {f : E} {σ H Q} (h : rd z W (RO z) f σ H Q) : rd z W (RE z) f σ H Q := by
  obtain ⟨L0, H0, t0, L, env, t, r, h⟩ := h
  refine ⟨L0, H0, t0, L, env, t, r, ?_⟩
  cases e : f env t with
  | bad => rw [e] at h; exact h
  | exc k t' => rw [e] at h; exact h
  | ok v t' =>
    rw [e] at h
    exact fun x H' L' g rn => h x H' L' g (.inl rn)
variable {e : Expr} {f : E}
/-- new is for good -/
theorem xEN (h : PE X e (rd z W (RN z) f)) : PE X e (rd z W (RE z) f) := h.imp fun _ _ _ => rdEN
/-- for good is for a look -/
theorem xOE (h : PE X e (rd z W (RE z) f)) : PE X e (rd z W (RO z) f) := h.imp fun _ _ _ => rdOE

/-! ### names, constants -/
theorem rd_intro {f : E} {σ : L2.St} {H : Hp} {Q : VK} {te : TE} (h : rd z W R f σ H Q)
    (k : ∀ L0 H0 t0 L env t, RelS z L0 H0 t0 L env t σ H → (match f env t with
      | .ok v t' => ∀ x H' L', Go z L H t L' H' t' → R L H L' H' v x → Q x H'
      | .exc k t' => ∀ H' L', Go z L H t L' H' t' → W k H'
      | .bad => False) → te σ H Q) : te σ H Q := by
  obtain ⟨L0, H0, t0, L, env, t, r, h⟩ := h
  exact k L0 H0 t0 L env t r h

theorem xv (i : Nat) {x : Str} {pos : Pos} (hN : X.N[i]? = some x := by rfl) (hv : Vis X.env.scope x := by first | exact Or.inl rfl | exact Or.inr (Or.inl rfl) | exact Or.inr (Or.inr rfl)) (hd : (x == ("__debug__" : Str)) = false := by decide)
    (hcd : (x == ("__classdict__" : Str)) = false := by decide) : PE X (.Name x pos) (rd z W (RE z) (eVar i)) := by
  refine (pe_var hN hv hd hcd).imp fun σ H Q h => ?_
  obtain ⟨L0, H0, t0, L, env, t, r, h⟩ := h
  simp only [eVar] at h
  cases e : env[i]? with
  | none => rw [e] at h; exact h.elim
  | some o =>
    rw [e] at h
    match o, e, h with
    | none, _, h => exact h.elim
    | some (true, v), _, h => exact h.elim
    | some (false, v), e, h =>
      obtain ⟨x, hx, hr⟩ := r.val i v e
      exact ⟨x, hx, h x H L (.refl r.ok) hr⟩
theorem xo (i : Nat) {x : Str} {pos : Pos} (hN : X.N[i]? = some x := by rfl) (hv : Vis X.env.scope x := by first | exact Or.inl rfl | exact Or.inr (Or.inl rfl) | exact Or.inr (Or.inr rfl)) (hd : (x == ("__debug__" : Str)) = false := by decide)
    (hcd : (x == ("__classdict__" : Str)) = false := by decide) : PE X (.Name x pos) (rd z W (RO z) (eOwn i)) := by
  refine (pe_var hN hv hd hcd).imp fun σ H Q h => ?_
  obtain ⟨L0, H0, t0, L, env, t, r, h⟩ := h
  simp only [eOwn] at h
  cases e : env[i]? with
  | none => rw [e] at h; exact h.elim
  | some o =>
    rw [e] at h
    match o, e, h with
    | none, _, h => exact h.elim
    | some (true, v), e, h =>
      obtain ⟨oa, ho, _⟩ := r.own
      obtain ⟨hx, nl, h0, hta, ov⟩ := ho i v e
      refine ⟨_, hx, h _ H L (.refl r.ok) ?_⟩
      exact .inr ⟨_, rfl, hta, ov⟩
    | some (false, v), e, h =>
      obtain ⟨x, hx, hr⟩ := r.val i v e
      exact ⟨x, hx, h x H L (.refl r.ok) (.inl hr)⟩
/-- a constant by its rule -/
theorem xc {v : Val} {x : V} (h : PE X e (tC x)) (r : ∀ L H, Rv z L H v x) : PE X e (rd z W (RE z) (eC v)) := by
  refine h.imp fun σ H Q h => ?_
  obtain ⟨L0, H0, t0, L, env, t, r0, h⟩ := h
  exact h x H L (.refl r0.ok) (r L H)
theorem xi (i : Int) {j pos} : PE X (.Constant (.int i) j pos) (rd z W (RE z) (eC (.int i))) := xc pe_int fun _ _ => by simp [Rv]
theorem xb (b : Bool) {j pos} : PE X (.Constant (.bool b) j pos) (rd z W (RE z) (eC (.bl b))) := xc pe_bl fun _ _ => by simp [Rv]
theorem xn {j pos} : PE X (.Constant .none j pos) (rd z W (RE z) (eC .non)) := xc pe_non fun _ _ => by simp [Rv]
theorem xs (s : String) {j pos} : PE X (.Constant (.str (Str.ofString s)) j pos) (rd z W (RE z) (eC (.str s))) := xc pe_str fun _ _ => by simp [Rv]
/-- a module's constant -/
theorem xg {x : Str} {pos : Pos} {v : Val} {y : V} {u : Value} (hg : Gl X x) (hm : X.mg x = some u) (r : L2.RelV y u) (h : ∀ L H, Rv z L H v y) (hd : (x == ("__debug__" : Str)) = false := by decide) : PE X (.Name x pos) (rd z W (RE z) (eC v)) :=
  xc (pe_glob hg hm r hd) h

/-! ### operators -/
/-- a two-place operation on values -/
def rdOp (z : Cz) (R : Rr) (op : Val → Val → Option Val) : R2 := fun x y H Q => ∃ L v w t r, Ok z L H t ∧ RO z L H L H v x ∧ RO z L H L H w y ∧ op v w = some r ∧ ∀ u H' L', Go z L H t L' H' t → R L H L' H' r u → Q u H'
def rdU (z : Cz) (R : Rr) (op : Val → Option Val) : V → Hp → VK → Prop := fun x H Q => ∃ L v t r, Ok z L H t ∧ RO z L H L H v x ∧ op v = some r ∧ ∀ u H' L', Go z L H t L' H' t → R L H L' H' r u → Q u H'
theorem RO.go {L1 H1 L H L' H' : _} {v : Val} {x : V} {t t' : Tin} (g : Go z L H t L' H' t') (h : RO z L1 H1 L H v x) : RO z L1 H1 L' H' v x := by
  rcases h with h | ⟨a, e2, n, o⟩
  · exact .inl (Rv.keep g.keep v h)
  · exact .inr ⟨a, e2, n, o.keep g.keep fun _ h => g.stay a _ h n⟩
theorem rd_op {o : Val → Val → Option Val} {f g : E} (hR : RBack z R) {σ H Q} (h : rd z W R (eOp o f g) σ H Q) : tOp (rdOp z R o) (rd z W (RO z) f) (rd z W (RO z) g) σ H Q := by
  obtain ⟨L0, H0, t0, L, env, t, r, h⟩ := h
  refine ⟨L0, H0, t0, L, env, t, r, ?_⟩
  simp only [eOp] at h
  cases e : f env t with
  | bad => rw [e] at h; exact h
  | exc k t' => rw [e] at h; exact h
  | ok v t1 =>
    rw [e] at h
    intro x H1 L1 g1 rx
    refine ⟨L0, H0, t0, L1, env, t1, r.go g1, ?_⟩
    simp only [Res.bind_ok] at h
    cases e2 : g env t1 with
    | bad => rw [e2] at h; exact h
    | exc k t' => rw [e2] at h; exact fun H' L' g2 => h H' L' (g1.trans g2)
    | ok w t2 =>
      rw [e2] at h
      intro y H2 L2 g2 ry
      simp only [Res.bind_ok] at h
      cases e3 : o v w with
      | none => rw [e3] at h; exact h.elim
      | some q =>
        rw [e3] at h
        exact ⟨L2, v, w, t2, q, g2.ok, RO.go g2 rx, ry, e3, fun u H' L' g3 ru => h u H' L' (g1.trans (g2.trans g3)) (hR.go (g1.trans g2) ru)⟩
variable {a b : Expr} {f g : E} {pos : Pos} {o : Val → Val → Option Val}
theorem xop {op : Operator} (hR : RBack z R) (ho : OpR X (binaryOp op) (rdOp z R o)) (ha : PE X a (rd z W (RO z) f)) (hb : PE X b (rd z W (RO z) g)) : PE X (.BinOp a op b pos) (rd z W R (eOp o f g)) :=
  (pe_op ho ha hb).imp fun _ _ _ => rd_op hR
theorem xopE {op : Operator} (ho : OpR X (binaryOp op) (rdOp z (RE z) o)) (ha : PE X a (rd z W (RO z) f)) (hb : PE X b (rd z W (RO z) g)) : PE X (.BinOp a op b pos) (rd z W (RE z) (eOp o f g)) := xop RE.back ho ha hb
theorem xopN {op : Operator} (ho : OpR X (binaryOp op) (rdOp z (RN z) o)) (ha : PE X a (rd z W (RO z) f)) (hb : PE X b (rd z W (RO z) g)) : PE X (.BinOp a op b pos) (rd z W (RN z) (eOp o f g)) := xop RN.back ho ha hb
theorem xcmp {op : CmpOp} (ho : OpR X (compareOp op) (rdOp z (RE z) o)) (ha : PE X a (rd z W (RO z) f)) (hb : PE X b (rd z W (RO z) g)) (hm : behindInMarks op b = false := by first | exact nomark _ | rfl) : PE X (.Compare a [op] [b] pos) (rd z W (RE z) (eOp o f g)) :=
  (pe_cmpR ho ha hb hm).imp fun _ _ _ => rd_op RE.back
theorem rd_un {o : Val → Option Val} {f : E} (hR : RBack z R) {σ H Q} (h : rd z W R (eUn o f) σ H Q) : tUn (rdU z R o) (rd z W (RO z) f) σ H Q := by
  obtain ⟨L0, H0, t0, L, env, t, r, h⟩ := h
  refine ⟨L0, H0, t0, L, env, t, r, ?_⟩
  simp only [eUn] at h
  cases e : f env t with
  | bad => rw [e] at h; exact h
  | exc k t' => rw [e] at h; exact h
  | ok v t1 =>
    rw [e] at h
    intro x H1 L1 g1 rx
    simp only [Res.bind_ok] at h
    cases e3 : o v with
    | none => rw [e3] at h; exact h.elim
    | some q =>
      rw [e3] at h
      exact ⟨L1, v, t1, q, g1.ok, rx, e3, fun u H' L' g3 ru => h u H' L' (g1.trans g3) (hR.go g1 ru)⟩
theorem xun {op : UnaryOp} {o : Val → Option Val} (ho : UnR X (unaryOp op) (rdU z (RE z) o)) (ha : PE X a (rd z W (RO z) f)) : PE X (.UnaryOp op a pos) (rd z W (RE z) (eUn o f)) :=
  (pe_un ho ha).imp fun _ _ _ => rd_un RE.back

/-! ### arguments -/
variable {es : List Expr} {fa : A}
theorem xa_nil {R : Rr} : PA X [] (rdA z W R aNil) := by
  refine pa_nil.imp fun σ H Q h => ?_
  obtain ⟨L0, H0, t0, L, env, t, r, h⟩ := h
  exact h [] H L (.refl r.ok) (by simp [Rs])
theorem Rs.imp {R R' : Rr} {L H L' H' L1 H1 L1' H1' : _} (i : ∀ v x, R L H L' H' v x → R' L1 H1 L1' H1' v x) : ∀ {vs : List Val} {ys : List V}, Rs R L H L' H' vs ys → Rs R' L1 H1 L1' H1' vs ys
  | [], _, h => h
  | v :: vs, _, h => by
    obtain ⟨y, r, e, h1, h2⟩ := h
    exact ⟨y, r, e, i v y h1, Rs.imp i h2⟩
/-- a relation that goes on -/
structure RFwd (z : Cz) (R : Rr) : Prop where
  go : ∀ {L H L1 H1 t1 L' H' t' v x}, Go z L1 H1 t1 L' H' t' → R L H L1 H1 v x → R L H L' H' v x
theorem RE.fwd : RFwd z (RE z) := ⟨fun g h => Rv.keep g.keep _ h⟩
theorem RO.fwd : RFwd z (RO z) := ⟨fun g h => RO.go g h⟩
theorem rd_cons {R : Rr} (hB : RBack z R) (hF : RFwd z R) {f : E} {fa : A} {σ H Q} (h : rdA z W R (aCons f fa) σ H Q) : tCons (rd z W R f) (rdA z W R fa) σ H Q := by
  obtain ⟨L0, H0, t0, L, env, t, r, h⟩ := h
  refine ⟨L0, H0, t0, L, env, t, r, ?_⟩
  simp only [aCons] at h
  cases e : f env t with
  | bad => rw [e] at h; exact h
  | exc k t' => rw [e] at h; exact h
  | ok v t1 =>
    rw [e] at h
    intro x H1 L1 g1 rx
    refine ⟨L0, H0, t0, L1, env, t1, r.go g1, ?_⟩
    simp only [Res.bind_ok] at h
    cases e2 : fa env t1 with
    | bad => rw [e2] at h; exact h
    | exc k t' => rw [e2] at h; exact fun H' L' g2 => h H' L' (g1.trans g2)
    | ok vs t2 =>
      rw [e2] at h
      simp only [Res.bind_ok] at h
      intro ys H2 L2 g2 ry
      exact h (x :: ys) H2 L2 (g1.trans g2) ⟨x, ys, rfl, hF.go g2 rx, Rs.imp (fun v x h => hB.go g1 h) ry⟩
theorem xa_cons (ha : PE X e (rd z W (RE z) f)) (hr : PA X es (rdA z W (RE z) fa)) (hs : starEach (e :: es) X.env = (false, eval e X.env) :: starEach es X.env := by rfl) : PA X (e :: es) (rdA z W (RE z) (aCons f fa)) :=
  (pa_cons ha hr hs).imp fun _ _ _ => rd_cons RE.back RE.fwd
theorem xa_consO (ha : PE X e (rd z W (RO z) f)) (hr : PA X es (rdA z W (RO z) fa)) (hs : starEach (e :: es) X.env = (false, eval e X.env) :: starEach es X.env := by rfl) : PA X (e :: es) (rdA z W (RO z) (aCons f fa)) :=
  (pa_cons ha hr hs).imp fun _ _ _ => rd_cons RO.back RO.fwd
theorem Rs.rvs {L H L' H' : _} : ∀ {vs : List Val} {ys : List V}, Rs (RE z) L H L' H' vs ys → Rvs z L' H' vs ys
  | [], _, h => by simpa [Rvs, Rs] using h
  | v :: vs, _, h => by
    obtain ⟨y, r, e, h1, h2⟩ := h
    simp only [Rvs]
    exact ⟨y, r, e, h1, h2.rvs⟩

/-! ### displays -/
theorem le_line {n : Nat} (h : n ≤ lim) : n ≤ sizeLine := Nat.le_trans h (by decide)
theorem rd_tup {fa : A} {σ H Q} (h : rd z W (RE z) (eTup fa) σ H Q) : tTup (rdA z W (RE z) fa) σ H Q := by
  obtain ⟨L0, H0, t0, L, env, t, r, h⟩ := h
  refine ⟨L0, H0, t0, L, env, t, r, ?_⟩
  simp only [eTup] at h
  cases e : fa env t with
  | bad => rw [e] at h; exact h
  | exc k t' => rw [e] at h; exact h
  | ok vs t1 =>
    rw [e] at h
    simp only [Res.bind_ok] at h
    intro ys H1 L1 g1 ry
    have ry := ry.rvs
    by_cases hl : vs.length ≤ lim
    · rw [if_pos hl] at h
      refine ⟨by rw [ry.len]; exact le_line hl, fun p hp => ?_⟩
      have g2 := Go.upd (o := .tup ys) g1.ok hp
      refine h _ _ L1 (g1.trans g2) ?_
      simp only [RE, Rv]
      exact ⟨p, ys, rfl, .inl (.inl upd_same), Rvs.keep g2.keep vs ry⟩
    · rw [if_neg hl] at h; exact h.elim
theorem xtup {k : Nat} (h : PA X es (rdA z W (RE z) fa)) : PE X (.Tuple es k pos) (rd z W (RE z) (eTup fa)) := (pe_tup h).imp fun _ _ _ => rd_tup
theorem rd_lst {fa : A} {σ H Q} (h : rd z W (RN z) (eLst fa) σ H Q) : tLst (rdA z W (RE z) fa) σ H Q := by
  obtain ⟨L0, H0, t0, L, env, t, r, h⟩ := h
  refine ⟨L0, H0, t0, L, env, t, r, ?_⟩
  simp only [eLst] at h
  cases e : fa env t with
  | bad => rw [e] at h; exact h
  | exc k t' => rw [e] at h; exact h
  | ok vs t1 =>
    rw [e] at h
    simp only [Res.bind_ok] at h
    intro ys H1 L1 g1 ry
    have ry := ry.rvs
    by_cases hl : vs.length ≤ lim
    · rw [if_pos hl] at h
      refine ⟨by rw [ry.len]; exact le_line hl, fun p hp => ?_⟩
      have g2 := Go.upd (o := .lst ys) g1.ok hp
      refine h _ _ L1 (g1.trans g2) ⟨p, rfl, g1.free hp, fun l => ?_, ys, upd_same, Rvs.keep g2.keep vs ry⟩
      obtain ⟨u, eu⟩ := g1.ok.1 p l
      rw [hp] at eu; cases eu
    · rw [if_neg hl] at h; exact h.elim
theorem xlst (h : PA X es (rdA z W (RE z) fa)) : PE X (.List es pos) (rd z W (RN z) (eLst fa)) := (pe_lst h).imp fun _ _ _ => rd_lst

/-! ### conditionals, truth -/
variable {c : Expr} {ct dt : T}
theorem xif (hc : PT X c (rdT z W ct)) (ha : PE X a (rd z W (RE z) f)) (hb : PE X b (rd z W (RE z) g)) : PE X (.IfExp c a b pos) (rd z W (RE z) (eIf ct f g)) := by
  refine (pe_ifExp hc ha hb).imp fun σ H Q h => ?_
  obtain ⟨L0, H0, t0, L, env, t, r, h⟩ := h
  refine ⟨L0, H0, t0, L, env, t, r, ?_⟩
  simp only [eIf] at h
  cases e : ct env t with
  | bad => rw [e] at h; exact h
  | exc k t' => rw [e] at h; exact h
  | ok k t1 =>
    rw [e] at h
    simp only [Res.bind_ok] at h
    intro H1 L1 g1
    cases k with
    | true =>
      simp only [if_true] at h ⊢
      refine ⟨L0, H0, t0, L1, env, t1, r.go g1, ?_⟩
      cases e2 : f env t1 with
      | bad => rw [e2] at h; exact h
      | exc k t' => rw [e2] at h; exact fun H' L' g2 => h H' L' (g1.trans g2)
      | ok v t2 => rw [e2] at h; exact fun x H' L' g2 rx => h x H' L' (g1.trans g2) rx
    | false =>
      simp only [Bool.false_eq_true, if_false] at h ⊢
      refine ⟨L0, H0, t0, L1, env, t1, r.go g1, ?_⟩
      cases e2 : g env t1 with
      | bad => rw [e2] at h; exact h
      | exc k t' => rw [e2] at h; exact fun H' L' g2 => h H' L' (g1.trans g2)
      | ok v t2 => rw [e2] at h; exact fun x H' L' g2 rx => h x H' L' (g1.trans g2) rx
theorem Rvs.isEmpty {L : Lk} {H : Hp} {vs : List Val} {ys : List V} (h : Rvs z L H vs ys) : ys.isEmpty = vs.isEmpty := by
  have := h.len
  cases vs <;> cases ys <;> simp_all
theorem tru_of [F : Fit z X] {L : Lk} {H : Hp} {v : Val} {x : V} {b : Bool} (h : RO z L H L H v x) (e : tru v = some b) : TruV X.K x H b := by
  rw [F.K]
  rcases h with h | ⟨a, rfl, n, o⟩
  · cases v <;> simp only [tru, Option.some.injEq] at e <;> try cases e
    · simp only [Rv] at h; subst h; rfl
    · simp only [Rv] at h; subst h; rfl
    · simp only [Rv] at h; subst h; rfl
    · rename_i xs
      simp only [Rv] at h
      obtain ⟨a, ys, rfl, h1, h2⟩ := h
      exact .inr (.inl ⟨ys, h1, by rw [h2.isEmpty]⟩)
    · rename_i xs
      simp only [Rv] at h
      obtain ⟨a, ys, rfl, l, h1, h2⟩ := h
      exact .inl ⟨ys, .inl (.inl h1), by rw [h2.isEmpty]⟩
  · cases v <;> first | exact o.elim | skip
    · obtain ⟨ys, h1, h2⟩ := o
      simp only [tru, Option.some.injEq] at e
      subst e
      exact .inl ⟨ys, .inl (.inl h1), by rw [h2.isEmpty]⟩
    · simp only [tru, reduceCtorEq] at e
theorem xt_tru [F : Fit z X] (ha : PE X a (rd z W (RO z) f)) (he : ∀ whole, isTrue a X.env whole = (do let v ← whole; standAt a.pos; holding [v] (truthy v)) := by intro _; rfl) : PT X a (rdT z W (tTru f)) := by
  refine (pt_truth ha he).imp fun σ H Q h => ?_
  obtain ⟨L0, H0, t0, L, env, t, r, h⟩ := h
  refine ⟨L0, H0, t0, L, env, t, r, ?_⟩
  simp only [tTru] at h
  cases e : f env t with
  | bad => rw [e] at h; exact h
  | exc k t' => rw [e] at h; exact h
  | ok v t1 =>
    rw [e] at h
    simp only [Res.bind_ok] at h
    intro x H1 L1 g1 rx
    cases e2 : tru v with
    | none => rw [e2] at h; exact h.elim
    | some k =>
      rw [e2] at h
      exact ⟨k, tru_of (z := z) (L := L1) rx e2, h H1 L1 g1⟩
theorem xt_cmp {op : CmpOp} (ho : OpR X (compareOp op) (rdOp z (RE z) o)) (ha : PE X a (rd z W (RO z) f)) (hb : PE X b (rd z W (RO z) g)) (hm : behindInMarks op b = false := by first | exact nomark _ | rfl) : PT X (.Compare a [op] [b] pos) (rdT z W (tBl (eOp o f g))) := by
  refine (pt_cmpR ho ha hb hm).imp fun σ H Q h => ?_
  refine rd_op (R := RE z) (W := W) RE.back (Q := fun x H' => ∃ k, x = .bl k ∧ Q k H') ?_
  obtain ⟨L0, H0, t0, L, env, t, r, h⟩ := h
  refine ⟨L0, H0, t0, L, env, t, r, ?_⟩
  simp only [tBl] at h
  cases e : eOp o f g env t with
  | bad => rw [e] at h; exact h
  | exc k t' => rw [e] at h; exact h
  | ok v t1 =>
    rw [e] at h
    simp only [Res.bind_ok] at h
    intro x H1 L1 g1 rx
    cases v <;> first | exact h.elim | skip
    simp only [RE, Rv] at rx
    exact ⟨_, rx, h H1 L1 g1⟩
/-- an expression that is a truth value, as a test -/
theorem xt_bl (ha : PE X a (rd z W (RE z) f)) (he : ∀ whole, isTrue a X.env whole = (do let v ← whole; standAt a.pos; holding [v] (truthy v)) := by intro _; rfl) : PT X a (rdT z W (tBl f)) := by
  refine (pt_val ha he).imp fun σ H Q h => ?_
  obtain ⟨L0, H0, t0, L, env, t, r, h⟩ := h
  refine ⟨L0, H0, t0, L, env, t, r, ?_⟩
  simp only [tBl] at h
  cases e : f env t with
  | bad => rw [e] at h; exact h
  | exc k t' => rw [e] at h; exact h
  | ok v t1 =>
    rw [e] at h
    simp only [Res.bind_ok] at h
    intro x H1 L1 g1 rx
    cases v <;> first | exact h.elim | skip
    simp only [RE, Rv] at rx
    exact ⟨_, rx, h H1 L1 g1⟩
theorem xt_not (hc : PT X c (rdT z W ct)) : PT X (.UnaryOp .Not c pos) (rdT z W (Nf.tNot ct)) := by
  refine (pt_not hc).imp fun σ H Q h => ?_
  obtain ⟨L0, H0, t0, L, env, t, r, h⟩ := h
  refine ⟨L0, H0, t0, L, env, t, r, ?_⟩
  simp only [Nf.tNot] at h
  cases e : ct env t with
  | bad => rw [e] at h; exact h
  | exc k t' => rw [e] at h; exact h
  | ok v t1 =>
    rw [e] at h
    exact h
theorem rd_and {σ H Q} (h : rdT z W (Nf.tAnd ct dt) σ H Q) : L2.tAnd (rdT z W ct) (rdT z W dt) σ H Q := by
  obtain ⟨L0, H0, t0, L, env, t, r, h⟩ := h
  refine ⟨L0, H0, t0, L, env, t, r, ?_⟩
  simp only [Nf.tAnd] at h
  cases e : ct env t with
  | bad => rw [e] at h; exact h
  | exc k t' => rw [e] at h; exact h
  | ok k t1 =>
    rw [e] at h
    simp only [Res.bind_ok] at h
    intro H1 L1 g1
    cases k with
    | false =>
      simp only [Bool.false_eq_true, if_false] at h ⊢
      exact h H1 L1 g1
    | true =>
      simp only [if_true] at h ⊢
      refine ⟨L0, H0, t0, L1, env, t1, r.go g1, ?_⟩
      cases e2 : dt env t1 with
      | bad => rw [e2] at h; exact h
      | exc k t' => rw [e2] at h; exact fun H' L' g2 => h H' L' (g1.trans g2)
      | ok v t2 => rw [e2] at h; exact fun H' L' g2 => h H' L' (g1.trans g2)
theorem rd_or {σ H Q} (h : rdT z W (Nf.tOr ct dt) σ H Q) : L2.tOr (rdT z W ct) (rdT z W dt) σ H Q := by
  obtain ⟨L0, H0, t0, L, env, t, r, h⟩ := h
  refine ⟨L0, H0, t0, L, env, t, r, ?_⟩
  simp only [Nf.tOr] at h
  cases e : ct env t with
  | bad => rw [e] at h; exact h
  | exc k t' => rw [e] at h; exact h
  | ok k t1 =>
    rw [e] at h
    simp only [Res.bind_ok] at h
    intro H1 L1 g1
    cases k with
    | true =>
      simp only [if_true] at h ⊢
      exact h H1 L1 g1
    | false =>
      simp only [Bool.false_eq_true, if_false] at h ⊢
      refine ⟨L0, H0, t0, L1, env, t1, r.go g1, ?_⟩
      cases e2 : dt env t1 with
      | bad => rw [e2] at h; exact h
      | exc k t' => rw [e2] at h; exact fun H' L' g2 => h H' L' (g1.trans g2)
      | ok v t2 => rw [e2] at h; exact fun H' L' g2 => h H' L' (g1.trans g2)
variable {rest : List Expr}
theorem xw_and1 (ha : PT X a (rdT z W ct)) : PW X (.BoolOp .And [a] pos) (rdT z W ct) := pw_and1 ha
theorem xw_or1 (ha : PT X a (rdT z W ct)) : PW X (.BoolOp .Or [a] pos) (rdT z W ct) := pw_or1 ha
theorem xw_and (ha : PT X a (rdT z W ct)) (hb : PW X (.BoolOp .And (b :: rest) pos) (rdT z W dt)) : PW X (.BoolOp .And (a :: b :: rest) pos) (rdT z W (Nf.tAnd ct dt)) := (pw_and ha hb).imp fun _ _ _ => rd_and
theorem xw_or (ha : PT X a (rdT z W ct)) (hb : PW X (.BoolOp .Or (b :: rest) pos) (rdT z W dt)) : PW X (.BoolOp .Or (a :: b :: rest) pos) (rdT z W (Nf.tOr ct dt)) := (pw_or ha hb).imp fun _ _ _ => rd_or
/-! ### and, or, not as values -/
theorem xone {op} {h : PE X a (rd z W (RE z) f)} : PE X (.BoolOp op [a] pos) (rd z W (RE z) f) := pe_one h
theorem xand [F : Fit z X] (ha : PE X a (rd z W (RE z) f)) (hb : PE X (.BoolOp .And (b :: rest) pos) (rd z W (RE z) g)) : PE X (.BoolOp .And (a :: b :: rest) pos) (rd z W (RE z) (eAnd f g)) := by
  refine (pe_andT ha hb).imp fun σ H Q h => ?_
  obtain ⟨L0, H0, t0, L, env, t, r, h⟩ := h
  refine ⟨L0, H0, t0, L, env, t, r, ?_⟩
  simp only [eAnd] at h
  cases e : f env t with
  | bad => rw [e] at h; exact h
  | exc k t' => rw [e] at h; exact h
  | ok v t1 =>
    rw [e] at h
    simp only [Res.bind_ok] at h
    intro x H1 L1 g1 rx
    cases e2 : tru v with
    | none => rw [e2] at h; exact h.elim
    | some k =>
      rw [e2] at h
      refine ⟨k, tru_of (z := z) (L := L1) (.inl rx) e2, ?_⟩
      cases k with
      | false =>
        simp only [Bool.false_eq_true, if_false] at h ⊢
        exact h x H1 L1 g1 rx
      | true =>
        simp only [if_true] at h ⊢
        refine ⟨L0, H0, t0, L1, env, t1, r.go g1, ?_⟩
        cases e3 : g env t1 with
        | bad => rw [e3] at h; exact h
        | exc k t' => rw [e3] at h; exact fun H' L' g2 => h H' L' (g1.trans g2)
        | ok v t2 => rw [e3] at h; exact fun x H' L' g2 rx => h x H' L' (g1.trans g2) rx
theorem xor [F : Fit z X] (ha : PE X a (rd z W (RE z) f)) (hb : PE X (.BoolOp .Or (b :: rest) pos) (rd z W (RE z) g)) : PE X (.BoolOp .Or (a :: b :: rest) pos) (rd z W (RE z) (eOr f g)) := by
  refine (pe_orT ha hb).imp fun σ H Q h => ?_
  obtain ⟨L0, H0, t0, L, env, t, r, h⟩ := h
  refine ⟨L0, H0, t0, L, env, t, r, ?_⟩
  simp only [eOr] at h
  cases e : f env t with
  | bad => rw [e] at h; exact h
  | exc k t' => rw [e] at h; exact h
  | ok v t1 =>
    rw [e] at h
    simp only [Res.bind_ok] at h
    intro x H1 L1 g1 rx
    cases e2 : tru v with
    | none => rw [e2] at h; exact h.elim
    | some k =>
      rw [e2] at h
      refine ⟨k, tru_of (z := z) (L := L1) (.inl rx) e2, ?_⟩
      cases k with
      | true =>
        simp only [if_true] at h ⊢
        exact h x H1 L1 g1 rx
      | false =>
        simp only [Bool.false_eq_true, if_false] at h ⊢
        refine ⟨L0, H0, t0, L1, env, t1, r.go g1, ?_⟩
        cases e3 : g env t1 with
        | bad => rw [e3] at h; exact h
        | exc k t' => rw [e3] at h; exact fun H' L' g2 => h H' L' (g1.trans g2)
        | ok v t2 => rw [e3] at h; exact fun x H' L' g2 rx => h x H' L' (g1.trans g2) rx
theorem xnot [F : Fit z X] (ha : PE X a (rd z W (RO z) f)) : PE X (.UnaryOp .Not a pos) (rd z W (RE z) (eNot f)) := by
  refine (pe_notT ha).imp fun σ H Q h => ?_
  obtain ⟨L0, H0, t0, L, env, t, r, h⟩ := h
  refine ⟨L0, H0, t0, L, env, t, r, ?_⟩
  simp only [eNot] at h
  cases e : f env t with
  | bad => rw [e] at h; exact h
  | exc k t' => rw [e] at h; exact h
  | ok v t1 =>
    rw [e] at h
    simp only [Res.bind_ok] at h
    intro x H1 L1 g1 rx
    cases e2 : tru v with
    | none => rw [e2] at h; exact h.elim
    | some k =>
      rw [e2] at h
      exact ⟨k, tru_of (z := z) (L := L1) rx e2, h _ H1 L1 g1 (by simp [RE, Rv])⟩
end
end Nf

namespace L2
open PySem PySem.Spec PyProof.Rows
theorem tuple_mulZ (l : Addr) (items : Array Value) (n : Nat) (dd : Option Addr) (sl : Array (Option Value)) (x : Int) (u : Tok) (c0 : (decide (x < -(2 ^ 63)) || decide (x ≥ 2 ^ 63)) = false) (c1 : (items.isEmpty || x == 1) = false) (c2 : (decide (x ≤ 0) || items.isEmpty) = true) :
    Meets (Builtin.«tuple.__mul__» ⟨[.ref l, .int x u], []⟩) (fun _ R s => s.heap.get? l = some { cls := .type "tuple", dict := dd, data := .seq items n, slots := sl } ∧
      R (.ok (.ret (Value.ref s.heap.objs.size))) { s with heap := s.heap.push { cls := Value.type "tuple", data := Data.seq #[] }, toks := s.toks }) :=
  .of_wp fun prog w A R s h => by
    obtain ⟨hp, g, d, tk, os⟩ := s
    obtain ⟨hl, h⟩ := h
    have f1 := AutoSeq1.idx_int
    wp_walk using wpAny_loadPart' hl
    repeat (first
      | (refine wpAny_ite_false (decide_eq_false (by rw [c0]; exact Bool.false_ne_true)) ?_; wp_walk using wpAny_loadPart' hl)
      | (refine wpAny_ite_false (decide_eq_false (by rw [c1]; exact Bool.false_ne_true)) ?_; wp_walk using wpAny_loadPart' hl)
      | (refine wpAny_ite_true (decide_eq_true (by rw [c2])) ?_; wp_walk using wpAny_loadPart' hl))
    exact ⟨_, rfl, h⟩
theorem tuple_mul1 (l : Addr) (items : Array Value) (n : Nat) (dd : Option Addr) (sl : Array (Option Value)) (u : Tok) :
    Meets (Builtin.«tuple.__mul__» ⟨[.ref l, .int 1 u], []⟩) (fun _ R s => s.heap.get? l = some { cls := .type "tuple", dict := dd, data := .seq items n, slots := sl } ∧
      R (.ok (.ret (Value.ref l))) s) :=
  .of_wp fun prog w A R s h => by
    obtain ⟨hp, g, d, tk, os⟩ := s
    obtain ⟨hl, h⟩ := h
    have f1 := AutoSeq1.idx_int
    have c0 : (decide ((1:Int) < -(2 ^ 63)) || decide ((1:Int) ≥ 2 ^ 63)) = false := by decide
    have c1 : (items.isEmpty || (1:Int) == 1) = true := by simp
    wp_walk using wpAny_loadPart' hl
    repeat (first
      | (refine wpAny_ite_false (decide_eq_false (by rw [c0]; exact Bool.false_ne_true)) ?_; wp_walk using wpAny_loadPart' hl)
      | (refine wpAny_ite_true (decide_eq_true (by rw [c1])) ?_; wp_walk using wpAny_loadPart' hl))
    exact ⟨_, rfl, h⟩
def rRepA (K : PySem.W.Frag) : R2 := fun x y H Q => ∃ l k xs, x = .ref l ∧ y = .int k ∧ SqT K H l xs ∧ xs ≠ [] ∧ -1000 ≤ k ∧ k ≤ 1000 ∧ xs.length ≤ 1000 ∧ (k = 1 → Q (.ref l) H) ∧ (k ≠ 1 → ∀ p, H p = none → Q (.ref p) (upd H p (.tup (List.replicate k.toNat xs).flatten)))
theorem op_repA {X : Cx} : OpR X (binaryOp .Mult) (rRepA X.K) := by
  intro pins s σ H x y v u Q I rx ry h
  obtain ⟨l, k, xs, rfl, rfl, hT, hne, h1, h2, hz, q1, q2⟩ := h
  by_cases h3 : 2 ≤ k
  · exact op_repT pins s σ H _ _ v u Q I rx ry ⟨l, k, xs, rfl, rfl, hT, hne, h3, h2, hz, q2 (by omega)⟩
  cases rx
  obtain ⟨t, rfl⟩ := ry
  obtain ⟨its, r, ⟨⟨cls, dd, data, sl⟩, ho, hc, n, hd⟩, hs⟩ := I.tuple hT
  simp only at hc hd
  subst hc hd
  have hle : its.length = xs.length := r.length.symm
  have hn : its ≠ [] := fun e => hne (by
    rw [e] at hle
    exact List.eq_nil_of_length_eq_zero hle.symm)
  have hi : its.toArray.isEmpty = false := by
    cases its with
    | nil => exact absurd rfl hn
    | cons a b => rfl
  have c0 : (decide (k < -(2 ^ 63)) || decide (k ≥ 2 ^ 63)) = false := by
    rw [decide_eq_false (by omega), decide_eq_false (by omega)] <;> rfl
  by_cases h4 : k = 1
  · subst h4
    refine wpAny_binaryOp_repeat_ref (T := "tuple") (U := "int") (by decide) ⟨_, ho, rfl⟩ (fun s' => typeIs_int s' 1 t) noFill_tuple_mul F.fills_int_mul F.slot_int_rmul repeat_tuple F.slot_int_index.lookup
      (call_meets F.slot_int_rmul (typeIs_int s 1 t) F.entry_int_rmul (F.args_int_rmul_2 _ _) (int_rmul_tuple 1 t l its.toArray n dd sl)
        ⟨ho, rfl, ⟨_, ho, rfl⟩, call_meets F.slot_tuple_mul ⟨_, ho, rfl⟩ F.entry_tuple_mul (F.args_tuple_mul_2 _ _) (tuple_mul1 l its.toArray n dd sl t) ⟨ho, ?_⟩⟩)
    exact ⟨.ref l, H, I, rfl, q1 rfl⟩
  · have c1 : (its.toArray.isEmpty || k == 1) = false := by
      rw [hi, Bool.false_or]
      exact beq_eq_false_iff_ne.mpr h4
    have c2 : (decide (k ≤ 0) || its.toArray.isEmpty) = true := by
      rw [decide_eq_true (by omega)]; rfl
    refine wpAny_binaryOp_repeat_ref (T := "tuple") (U := "int") (by decide) ⟨_, ho, rfl⟩ (fun s' => typeIs_int s' k t) noFill_tuple_mul F.fills_int_mul F.slot_int_rmul repeat_tuple F.slot_int_index.lookup
      (call_meets F.slot_int_rmul (typeIs_int s k t) F.entry_int_rmul (F.args_int_rmul_2 _ _) (int_rmul_tuple k t l its.toArray n dd sl)
        ⟨ho, rfl, ⟨_, ho, rfl⟩, call_meets F.slot_tuple_mul ⟨_, ho, rfl⟩ F.entry_tuple_mul (F.args_tuple_mul_2 _ _) (tuple_mulZ l its.toArray n dd sl k t c0 c1 c2) ⟨ho, ?_⟩⟩)
    have e0 : (List.replicate k.toNat xs).flatten = [] := by
      rw [show k.toNat = 0 by omega]; rfl
    refine ⟨.ref s.heap.objs.size, _, I.laid (t' := s.toks) (o := .tup (List.replicate k.toNat xs).flatten) (fun b ob q => Heap.get?_push_of_some _ q) (Nat.le_refl _) ?_, rfl, q2 h4 _ (I.hok.fresh (Nat.le_refl _))⟩
    rw [e0]
    exact ⟨Nat.zero_le _, [], .nil, IsTup.new _ _⟩
end L2

namespace Nf
open PySem PySem.Spec PyProof.Rows L2

section
variable {z : Cz} {W : Wx} {X : Cx} {L : Lk} {H : Hp} {t : Tin}
/-! ### what a look gives -/
theorem RO.int {L1 H1 : _} {i : Int} {x : V} (h : RO z L1 H1 L H (.int i) x) : x = .int i := by
  rcases h with h | ⟨_, _, _, e⟩
  · simpa only [Rv] using h
  · exact e.elim
theorem RO.bl {L1 H1 : _} {i : Bool} {x : V} (h : RO z L1 H1 L H (.bl i) x) : x = .bl i := by
  rcases h with h | ⟨_, _, _, e⟩
  · simpa only [Rv] using h
  · exact e.elim
theorem RO.non {L1 H1 : _} {x : V} (h : RO z L1 H1 L H .non x) : x = .non := by
  rcases h with h | ⟨_, _, _, e⟩
  · simpa only [Rv] using h
  · exact e.elim
theorem RO.str {L1 H1 : _} {s : String} {x : V} (h : RO z L1 H1 L H (.str s) x) : x = .str (Str.ofString s) := by
  rcases h with h | ⟨_, _, _, e⟩
  · simpa only [Rv] using h
  · exact e.elim
theorem RO.tup {L1 H1 : _} {vs : List Val} {x : V} (h : RO z L1 H1 L H (.tup vs) x) : ∃ a ys, x = .ref a ∧ SqT z.K H a ys ∧ Rvs z L H vs ys := by
  rcases h with h | ⟨_, _, _, e⟩
  · simpa only [Rv] using h
  · exact e.elim
theorem RO.lst {L1 H1 : _} {vs : List Val} {x : V} (h : RO z L1 H1 L H (.lst vs) x) : ∃ a ys, x = .ref a ∧ H a = some (.lst ys) ∧ Rvs z L H vs ys := by
  rcases h with h | ⟨a, e2, _, ys, h1, h2⟩
  · simp only [Rv] at h
    obtain ⟨a, ys, e, _, h1, h2⟩ := h
    exact ⟨a, ys, e, h1, h2⟩
  · exact ⟨a, ys, e2, h1, h2⟩
theorem RO.dct {L1 H1 : _} {ks : List Int} {vs : List Val} {x : V} (h : RO z L1 H1 L H (.dct ks vs) x) : ∃ a zs, x = .ref a ∧ H a = some (.dK zs) ∧ zs.map (·.1) = ks.map Sum.inl ∧ Rvs z L H vs (zs.map (·.2)) := by
  rcases h with h | ⟨a, e2, _, zs, h1, h2, h3⟩
  · simp only [Rv] at h
    obtain ⟨a, zs, e, _, h1, h2, h3⟩ := h
    exact ⟨a, zs, e, h1, h2, h3⟩
  · exact ⟨a, zs, e2, h1, h2, h3⟩
/-- a new tuple is handed on -/
theorem newT {Q : VK} {vs : List Val} {ys : List V} (ok : Ok z L H t) (r : Rvs z L H vs ys) (q : ∀ u H' L', Go z L H t L' H' t → RE z L H L' H' (.tup vs) u → Q u H') {p : Addr} (hp : H p = none) : Q (.ref p) (upd H p (.tup ys)) := by
  have g := Go.upd (o := .tup ys) ok hp
  refine q _ _ L g ?_
  simp only [RE, Rv]
  exact ⟨p, ys, rfl, .inl (.inl upd_same), Rvs.keep g.keep vs r⟩
/-- a new list -/
theorem newN {Q : VK} {vs : List Val} {ys : List V} (ok : Ok z L H t) (r : Rvs z L H vs ys) (q : ∀ u H' L', Go z L H t L' H' t → RN z L H L' H' (.lst vs) u → Q u H') {p : Addr} (hp : H p = none) : Q (.ref p) (upd H p (.lst ys)) := by
  have g := Go.upd (o := .lst ys) ok hp
  refine q _ _ L g ⟨p, rfl, hp, fun l => ?_, ys, upd_same, Rvs.keep g.keep vs r⟩
  obtain ⟨u, eu⟩ := ok.1 p l
  rw [hp] at eu; cases eu
theorem newL {Q : VK} {vs : List Val} {ys : List V} (ok : Ok z L H t) (r : Rvs z L H vs ys) (q : ∀ u H' L', Go z L H t L' H' t → RE z L H L' H' (.lst vs) u → Q u H') {p : Addr} (hp : H p = none) : Q (.ref p) (upd H p (.lst ys)) :=
  newN ok r (fun u H' L' g rn => by
    obtain ⟨L'', g', r'⟩ := rn.lock g
    exact q u H' L'' g' r') hp

/-! ### arithmetic -/
theorem os_add [F : Fit z X] : OpR X (binaryOp .Add) (rdOp z (RE z) oAdd) := by
  intro pins s σ H x y v u Q I rx ry h
  obtain ⟨L, v', w', t, r, ok, hv, hw, e, q⟩ := h
  cases v' <;> cases w' <;> simp only [oAdd, reduceCtorEq, Option.some.injEq] at e
  · subst e
    exact op_add pins s σ H x y v u Q I rx ry ⟨_, _, hv.int, hw.int, q _ H L (.refl ok) (by simp [RE, Rv])⟩
  · rename_i xs ys
    split at e
    · rename_i hl
      simp only [Option.some.injEq] at e; subst e
      obtain ⟨a, us, rfl, h1, r1⟩ := hv.tup
      obtain ⟨b, ws, rfl, h2, r2⟩ := hw.tup
      rw [← F.K] at h1 h2
      refine op_catA pins s σ H _ _ v u Q I rx ry ⟨a, b, us, ws, rfl, rfl, h1, h2, by rw [r1.len, r2.len]; exact le_line hl, fun e0 => ?_, fun n0 e0 => ?_, fun n0 n1 p hp => newT ok (r1.append r2) q hp⟩
      · have ex : xs = [] := by
          have := r1.len; rw [e0] at this; exact List.eq_nil_of_length_eq_zero this.symm
        subst ex
        refine q _ H L (.refl ok) ?_
        simp only [RE, Rv]
        exact ⟨b, ws, rfl, by rw [← F.K]; exact h2, r2⟩
      · have ex : ys = [] := by
          have := r2.len; rw [e0] at this; exact List.eq_nil_of_length_eq_zero this.symm
        subst ex
        refine q _ H L (.refl ok) ?_
        simp only [RE, Rv, List.append_nil]
        exact ⟨a, us, rfl, by rw [← F.K]; exact h1, r1⟩
    · cases e
  · rename_i xs ys
    split at e
    · rename_i hl
      simp only [Option.some.injEq] at e; subst e
      obtain ⟨a, us, rfl, h1, r1⟩ := hv.lst
      obtain ⟨b, ws, rfl, h2, r2⟩ := hw.lst
      exact op_cat pins s σ H _ _ v u Q I rx ry ⟨a, b, us, ws, rfl, rfl, h1, h2, by rw [r1.len, r2.len]; exact le_line hl, fun p hp => newL ok (r1.append r2) q hp⟩
    · cases e
theorem os_sub : OpR X (binaryOp .Sub) (rdOp z (RE z) oSub) := by
  intro pins s σ H x y v u Q I rx ry h
  obtain ⟨L, v', w', t, r, ok, hv, hw, e, q⟩ := h
  cases v' <;> cases w' <;> simp only [oSub, reduceCtorEq, Option.some.injEq] at e
  subst e
  exact op_sub pins s σ H x y v u Q I rx ry ⟨_, _, hv.int, hw.int, q _ H L (.refl ok) (by simp [RE, Rv])⟩
theorem bits_of {i j : Int} (h : bitsOk i j = true) : CMulX i j := by
  have b : ∀ x : Int, Builtin.Int.intBits x ≤ x.natAbs.log2 + 1 := fun x => by
    unfold Builtin.Int.intBits
    split <;> omega
  have h1 := b i
  have h2 := b j
  have h3 : i.natAbs.log2 + j.natAbs.log2 < 134000000 := of_decide_eq_true h
  unfold CMulX
  omega
theorem os_mul [F : Fit z X] : OpR X (binaryOp .Mult) (rdOp z (RE z) oMul) := by
  intro pins s σ H x y v u Q I rx ry h
  obtain ⟨L, v', w', t, r, ok, hv, hw, e, q⟩ := h
  cases v' <;> cases w' <;> simp only [oMul, reduceCtorEq] at e
  · split at e
    · rename_i hb
      simp only [Option.some.injEq] at e; subst e
      exact op_mulX pins s σ H x y v u Q I rx ry ⟨_, _, hv.int, hw.int, bits_of hb, q _ H L (.refl ok) (by simp [RE, Rv])⟩
    · cases e
  · rename_i xs k
    split at e
    · rename_i hb
      obtain ⟨n0, h1, h2, h3⟩ := hb
      simp only [Option.some.injEq] at e; subst e
      obtain ⟨a, us, rfl, ha, r1⟩ := hv.tup
      refine op_repA pins s σ H _ _ v u Q I rx ry ⟨a, k, us, rfl, hw.int, by rw [F.K]; exact ha, fun e0 => n0 ?_, h2, h1, by rw [r1.len]; exact h3, fun e1 => ?_, fun _ p hp => newT ok (r1.flat k.toNat) q hp⟩
      · have := r1.len; rw [e0] at this; exact List.eq_nil_of_length_eq_zero this.symm
      · refine q _ H L (.refl ok) ?_
        subst e1
        simp only [RE, Rv, rep]
        refine ⟨a, us, rfl, ha, ?_⟩
        have e2 : (List.replicate (1 : Int).toNat xs).flatten = xs := by simp
        rw [e2]; exact r1
    · cases e
  · rename_i xs k
    split at e
    · rename_i hb
      obtain ⟨h1, h2, h3⟩ := hb
      simp only [Option.some.injEq] at e; subst e
      obtain ⟨a, us, rfl, ha, r1⟩ := hv.lst
      refine op_rep pins s σ H _ _ v u Q I rx ry ⟨a, k, us, rfl, hw.int, ha, by omega, by omega, ?_, fun p hp => newL ok (r1.flat k.toNat) q hp⟩
      rw [r1.len]
      have : xs.length * k.toNat ≤ 1000 * 1000 := Nat.mul_le_mul h3 (by omega)
      exact Nat.le_trans this (by decide)
    · cases e
theorem os_div : OpR X (binaryOp .FloorDiv) (rdOp z (RE z) oDiv) := by
  intro pins s σ H x y v u Q I rx ry h
  obtain ⟨L, v', w', t, r, ok, hv, hw, e, q⟩ := h
  cases v' <;> cases w' <;> simp only [oDiv, reduceCtorEq] at e
  rename_i i j
  split at e
  · rename_i hb
    simp only [Option.some.injEq] at e; subst e
    have e1 := hv.int
    have e2 := hw.int
    subst e1 e2
    obtain ⟨t1, rfl⟩ := rx
    obtain ⟨t2, rfl⟩ := ry
    refine floordiv_int hb.1 ⟨.int (i.fdiv j), H, I.tok _, ⟨_, rfl⟩, q _ H L (.refl ok) (by simp [RE, Rv])⟩ (.inl (PyProof.noPylong_of_log2 hb.2))
  · cases e
theorem os_mod : OpR X (binaryOp .Mod) (rdOp z (RE z) oMod) := by
  intro pins s σ H x y v u Q I rx ry h
  obtain ⟨L, v', w', t, r, ok, hv, hw, e, q⟩ := h
  cases v' <;> cases w' <;> simp only [oMod, reduceCtorEq] at e
  split at e
  · rename_i hb
    simp only [Option.some.injEq] at e; subst e
    exact op_modN pins s σ H x y v u Q I rx ry ⟨_, _, hv.int, hw.int, hb, q _ H L (.refl ok) (by simp [RE, Rv])⟩
  · cases e
theorem os_pow : OpR X (binaryOp .Pow) (rdOp z (RE z) oPow) := by
  intro pins s σ H x y v u Q I rx ry h
  obtain ⟨L, v', w', t, r, ok, hv, hw, e, q⟩ := h
  cases v' <;> cases w' <;> simp only [oPow, reduceCtorEq] at e
  split at e
  · rename_i hb
    simp only [Option.some.injEq] at e; subst e
    exact op_pow pins s σ H x y v u Q I rx ry ⟨_, _, hv.int, hw.int, ⟨hb.1, by have := hb.2.1; omega, hb.2.2⟩, q _ H L (.refl ok) (by simp [RE, Rv])⟩
  · cases e
theorem us_neg : UnR X (unaryOp .USub) (rdU z (RE z) uNeg) := by
  intro pins s σ H x v Q I rx h
  obtain ⟨L, v', t, r, ok, hv, e, q⟩ := h
  cases v' <;> simp only [uNeg, reduceCtorEq, Option.some.injEq] at e
  subst e
  exact un_neg pins s σ H x v Q I rx ⟨_, hv.int, q _ H L (.refl ok) (by simp [RE, Rv])⟩

/-! ### comparisons -/
theorem os_lt : OpR X (compareOp .Lt) (rdOp z (RE z) cLt) := by
  intro pins s σ H x y v u Q I rx ry h
  obtain ⟨L, v', w', t, r, ok, hv, hw, e, q⟩ := h
  cases v' <;> cases w' <;> simp only [cLt, reduceCtorEq, Option.some.injEq] at e
  subst e
  exact op_lt pins s σ H x y v u Q I rx ry ⟨_, _, hv.int, hw.int, q _ H L (.refl ok) (by simp [RE, Rv])⟩
theorem os_le : OpR X (compareOp .LtE) (rdOp z (RE z) cLe) := by
  intro pins s σ H x y v u Q I rx ry h
  obtain ⟨L, v', w', t, r, ok, hv, hw, e, q⟩ := h
  cases v' <;> cases w' <;> simp only [cLe, reduceCtorEq, Option.some.injEq] at e
  subst e
  exact op_le pins s σ H x y v u Q I rx ry ⟨_, _, hv.int, hw.int, q _ H L (.refl ok) (by simp [RE, Rv])⟩
theorem os_gt : OpR X (compareOp .Gt) (rdOp z (RE z) cGt) := by
  intro pins s σ H x y v u Q I rx ry h
  obtain ⟨L, v', w', t, r, ok, hv, hw, e, q⟩ := h
  cases v' <;> cases w' <;> simp only [cGt, reduceCtorEq, Option.some.injEq] at e
  subst e
  exact op_gt pins s σ H x y v u Q I rx ry ⟨_, _, hv.int, hw.int, q _ H L (.refl ok) (by simp [RE, Rv])⟩
theorem os_ge : OpR X (compareOp .GtE) (rdOp z (RE z) cGe) := by
  intro pins s σ H x y v u Q I rx ry h
  obtain ⟨L, v', w', t, r, ok, hv, hw, e, q⟩ := h
  cases v' <;> cases w' <;> simp only [cGe, reduceCtorEq, Option.some.injEq] at e
  subst e
  exact op_ge pins s σ H x y v u Q I rx ry ⟨_, _, hv.int, hw.int, q _ H L (.refl ok) (by simp [RE, Rv])⟩

/-! ### equality of data -/
mutual
def toD : Val → PyData
  | .non => .none
  | .bl b => .bool b
  | .int i => .int i
  | .str s => .str (Str.ofString s)
  | .tup xs => .tuple (toDs xs)
  | .lst xs => .list (toDs xs)
  | _ => .none
def toDs : List Val → List PyData
  | [] => []
  | x :: xs => toD x :: toDs xs
end
theorem ofString_eq {a b : String} : (Str.ofString a == Str.ofString b) = decide (a = b) := by
  by_cases h : a = b
  · subst h; simp
  · rw [decide_eq_false h]
    refine beq_eq_false_iff_ne.mpr fun e => h ?_
    rw [Str.ofString_eq_toList, Str.ofString_eq_toList] at e
    injection e with e
    have e2 : a.toList.map Char.toNat = b.toList.map Char.toNat := by
      have := congrArg Array.toList e
      simpa using this
    have hinj : ∀ (l m : List Char), l.map Char.toNat = m.map Char.toNat → l = m := by
      intro l
      induction l with
      | nil => intro m hm; cases m with
        | nil => rfl
        | cons c r => simp at hm
      | cons c r ih =>
        intro m hm
        cases m with
        | nil => simp at hm
        | cons d q =>
          simp only [List.map_cons, List.cons.injEq] at hm
          have hc : c = d := Char.ext (UInt32.toNat_inj.mp hm.1)
          rw [hc, ih q hm.2]
    exact String.toList_injective (hinj _ _ e2)
mutual
theorem eqv_toD : ∀ v w : Val, v.data = true → w.data = true → PyData.eqv (toD v) (toD w) = veq v w
  | .non, w, _, hw => by cases w <;> first | rfl | simp [Val.data] at hw
  | .bl a, w, _, hw => by cases w <;> first | rfl | (simp [Val.data] at hw; done)
  | .int a, w, _, hw => by cases w <;> first | rfl | (simp [Val.data] at hw; done)
  | .str a, w, _, hw => by
    cases w <;> first | rfl | (simp [Val.data] at hw; done) | skip
    simp only [toD, PyData.eqv, veq]
    exact ofString_eq
  | .tup xs, w, hv, hw => by
    cases w <;> first | rfl | (simp [Val.data] at hw; done) | skip
    exact eqv_toDs xs _ (by simpa [Val.data] using hv) (by simpa [Val.data] using hw)
  | .lst xs, w, hv, hw => by
    cases w <;> first | rfl | (simp [Val.data] at hw; done) | skip
    exact eqv_toDs xs _ (by simpa [Val.data] using hv) (by simpa [Val.data] using hw)
  | .iset _, _, h, _ => by simp [Val.data] at h
  | .dct _ _, _, h, _ => by simp [Val.data] at h
  | .tin, _, h, _ => by simp [Val.data] at h
  | .fn _, _, h, _ => by simp [Val.data] at h
theorem eqv_toDs : ∀ xs ys : List Val, dataL xs = true → dataL ys = true → PyData.eqvAll (toDs xs) (toDs ys) = veqL xs ys
  | [], [], _, _ => rfl
  | [], _ :: _, _, _ => rfl
  | _ :: _, [], _, _ => rfl
  | x :: xs, y :: ys, hx, hy => by
    simp only [dataL, Bool.and_eq_true] at hx hy
    simp only [toDs, PyData.eqvAll, veqL]
    rw [eqv_toD x y hx.1 hy.1, eqv_toDs xs ys hx.2 hy.2]
end
mutual
theorem dp_of {H : Hp} : ∀ (v : Val) {x : V}, v.data = true → Rv z L H v x → Dp z.K H x (toD v)
  | .non, _, _, h => by simp only [Rv] at h; subst h; exact .non
  | .bl b, _, _, h => by simp only [Rv] at h; subst h; exact .bl b
  | .int b, _, _, h => by simp only [Rv] at h; subst h; exact .int b
  | .str b, _, _, h => by simp only [Rv] at h; subst h; exact .str _
  | .tup xs, _, d, h => by
    simp only [Rv] at h
    obtain ⟨a, ys, rfl, h1, h2⟩ := h
    exact .tup h1 (dp_all xs (by simpa [Val.data] using d) h2)
  | .lst xs, _, d, h => by
    simp only [Rv] at h
    obtain ⟨a, ys, rfl, _, h1, h2⟩ := h
    exact .lst (.inl (.inl h1)) (dp_all xs (by simpa [Val.data] using d) h2)
  | .iset _, _, h, _ => by simp [Val.data] at h
  | .dct _ _, _, h, _ => by simp [Val.data] at h
  | .tin, _, h, _ => by simp [Val.data] at h
  | .fn _, _, h, _ => by simp [Val.data] at h
theorem dp_all {H : Hp} : ∀ (vs : List Val) {ys : List V}, dataL vs = true → Rvs z L H vs ys → DpAll z.K H ys (toDs vs)
  | [], _, _, h => by simp only [Rvs] at h; subst h; exact .nil
  | v :: vs, _, d, h => by
    simp only [Rvs] at h
    obtain ⟨y, r, rfl, h1, h2⟩ := h
    simp only [dataL, Bool.and_eq_true] at d
    exact .cons (dp_of v d.1 h1) (dp_all vs d.2 h2)
end
theorem dp_ro {L1 H1 : _} {v : Val} {x : V} (d : v.data = true) (h : RO z L1 H1 L H v x) : Dp z.K H x (toD v) := by
  rcases h with h | ⟨a, rfl, _, o⟩
  · exact dp_of v d h
  · cases v <;> first | exact o.elim | skip
    · obtain ⟨ys, h1, h2⟩ := o
      exact .lst (.inl (.inl h1)) (dp_all _ (by simpa [Val.data] using d) h2)
    · simp [Val.data] at d
theorem strOk_of {s : String} (h : s.toList.all (fun c => decide (c.toNat < 128)) = true) : PyData.strOk (Str.ofString s) = true := by
  rw [Str.ofString_eq_toList]
  unfold PyData.strOk
  rw [List.all_toArray, List.all_map, List.all_eq_true]
  rw [List.all_eq_true] at h
  intro c hc
  have := of_decide_eq_true (h c hc)
  exact decide_eq_true (by omega)
mutual
theorem lay_of : ∀ v : Val, v.data = true → (toD v).canLay0 = true ∧ (toD v).depth = v.depth
  | .non, _ => ⟨rfl, rfl⟩
  | .bl _, _ => ⟨rfl, rfl⟩
  | .int _, _ => ⟨rfl, rfl⟩
  | .str s, h => ⟨by simp only [toD, PyData.canLay0]; exact strOk_of (by simpa [Val.data] using h), rfl⟩
  | .tup xs, h => by
    have q := lay_all xs (by simpa [Val.data] using h)
    simp only [toD, PyData.canLay0, PyData.depth, Val.depth]
    exact ⟨q.1, by rw [q.2]⟩
  | .lst xs, h => by
    have q := lay_all xs (by simpa [Val.data] using h)
    simp only [toD, PyData.canLay0, PyData.depth, Val.depth]
    exact ⟨q.1, by rw [q.2]⟩
  | .iset _, h => by simp [Val.data] at h
  | .dct _ _, h => by simp [Val.data] at h
  | .tin, h => by simp [Val.data] at h
  | .fn _, h => by simp [Val.data] at h
theorem lay_all : ∀ vs : List Val, dataL vs = true → PyData.canLayAll0 (toDs vs) = true ∧ PyData.depthAll (toDs vs) = depthL vs
  | [], _ => ⟨rfl, rfl⟩
  | v :: vs, h => by
    simp only [dataL, Bool.and_eq_true] at h
    have q1 := lay_of v h.1
    have q2 := lay_all vs h.2
    simp only [toDs, PyData.canLayAll0, PyData.depthAll, depthL]
    exact ⟨by rw [q1.1, q2.1]; rfl, by rw [q1.2, q2.2]⟩
end
theorem shaped_of {v : Val} (d : v.data = true) (h : v.depth ≤ 31) : SeqAt.shaped (toD v) = true := by
  have q := lay_of v d
  unfold SeqAt.shaped
  rw [q.1, q.2, Bool.true_and]
  exact decide_eq_true (by omega)
theorem os_eq [F : Fit z X] : OpR X (compareOp .Eq) (rdOp z (RE z) cEq) := by
  intro pins s σ H x y v u Q I rx ry h
  obtain ⟨L, v', w', t, r, ok, hv, hw, e, q⟩ := h
  simp only [cEq] at e
  split at e
  · rename_i hb
    simp only [Bool.and_eq_true, decide_eq_true_eq] at hb
    obtain ⟨⟨⟨d1, d2⟩, l1⟩, l2⟩ := hb
    simp only [Option.some.injEq] at e; subst e
    refine op_eqD (by have := F.hu; omega) pins s σ H x y v u Q I rx ry ⟨toD v', toD w', by rw [F.K]; exact dp_ro d1 hv, by rw [F.K]; exact dp_ro d2 hw, shaped_of d1 (by omega), shaped_of d2 (by omega), ?_⟩
    rw [eqv_toD v' w' d1 d2]
    exact q _ H L (.refl ok) (by simp [RE, Rv])
  · cases e
theorem os_ne [F : Fit z X] : OpR X (compareOp .NotEq) (rdOp z (RE z) cNe) := by
  intro pins s σ H x y v u Q I rx ry h
  obtain ⟨L, v', w', t, r, ok, hv, hw, e, q⟩ := h
  simp only [cNe] at e
  split at e
  · rename_i hb
    simp only [Bool.and_eq_true, decide_eq_true_eq] at hb
    obtain ⟨⟨⟨d1, d2⟩, l1⟩, l2⟩ := hb
    simp only [Option.some.injEq] at e; subst e
    refine op_neD (by have := F.hu; omega) pins s σ H x y v u Q I rx ry ⟨toD v', toD w', by rw [F.K]; exact dp_ro d1 hv, by rw [F.K]; exact dp_ro d2 hw, shaped_of d1 (by omega), shaped_of d2 (by omega), ?_⟩
    rw [eqv_toD v' w' d1 d2]
    exact q _ H L (.refl ok) (by simp [RE, Rv])
  · cases e
end
end Nf

namespace HT
open PySem PySem.Spec PyProof.Rows
section
variable {prog : Program} {w : World} {A : Around} {E : Value → Shared → Prop} {s : Shared}
theorem fm_congr {α β : Type} {f g : α → Option β} : ∀ {l : List α}, (∀ x ∈ l, f x = g x) → l.filterMap f = l.filterMap g
  | [], _ => rfl
  | a :: l, h => by
    rw [List.filterMap_cons, List.filterMap_cons, h a List.mem_cons_self, fm_congr fun x hx => h x (List.mem_cons_of_mem _ hx)]
theorem rev_pick (xs : Array Value) : ((List.range xs.size).filterMap fun (m : Nat) => xs[(((xs.size : Int) - 1) + (m : Int) * (-1)).toNat]?).toArray = xs.toList.reverse.toArray := by
  congr 1
  have h1 : ((List.range xs.size).filterMap fun (m : Nat) => xs[(((xs.size : Int) - 1) + (m : Int) * (-1)).toNat]?) = (List.range xs.size).filterMap fun (m : Nat) => xs.toList.reverse[m]? := by
    refine fm_congr fun m hm => ?_
    have hm' : m < xs.size := List.mem_range.mp hm
    rw [List.getElem?_reverse (by simpa using hm')]
    have : (((xs.size : Int) - 1) + (m : Int) * (-1)).toNat = xs.toList.length - 1 - m := by
      rw [Array.length_toList]; omega
    rw [this, Array.getElem?_toList]
  rw [h1]
  have h2 : ∀ l : List Value, (List.range l.length).filterMap (fun m => l[m]?) = l := by
    intro l
    have e : (List.range l.length).filterMap (fun m => l[m]?) = (List.range l.length).map fun m => l[m]?.getD (.none) := by
      rw [← List.filterMap_eq_map]
      refine fm_congr fun m hm => ?_
      have hm' : m < l.length := List.mem_range.mp hm
      simp [List.getElem?_eq_getElem hm']
    rw [e]
    refine List.ext_getElem (by simp) fun i h1 h2 => ?_
    simp [List.getElem?_eq_getElem h2]
  have h3 := h2 xs.toList.reverse
  rw [List.length_reverse, Array.length_toList] at h3
  exact h3
theorem getItem_tuple_rev {t sl : Addr} {items : Array Value} {vl vu vs : Value} {Q : Value → Shared → Prop} (ht : IsTup s.heap t items) (hs : s.heap.IsSliceOf sl vl vu vs) (pl : IsPart vl none) (pu : IsPart vu none) (ps : IsPart vs (some (-1)))
    (h : Q (.ref s.heap.objs.size) { s with heap := s.heap.push { cls := .type "tuple", data := .seq items.toList.reverse.toArray } })
    (hsz : items.size ≤ sizeLine) : wpAny (model prog w) A (getItem (.ref t) (.ref sl)) Q E s := by
  have htake : sizeOk (.seq items.toList.reverse.toArray) := by
    show items.toList.reverse.toArray.size ≤ sizeLine
    rw [List.size_toArray, List.length_reverse, Array.length_toList]
    exact hsz
  obtain ⟨os, hos, hcs, hds⟩ := id hs
  have hTs : s.TypeIs (.ref sl) "slice" := ⟨os, hos, hcs⟩
  unfold getItem
  try with_reducible refine wpAny_holding ?_
  first | refine wpAny_bind (wpAny_pure ?_) | skip
  refine wpAny_bind (wpAny_sequenceKey ht.typeIs (by decide) ?_)
  refine wpAny_bind (wpAny_callSpecial?_slot (name := Str.ofString "__getitem__") ht.typeIs PyProof.Rows.slot_tuple_getitem
    (wpAny_call_entry PyProof.Rows.slot_tuple_getitem ht.typeIs entry_tuple_getitem ?_ (args_tuple_getitem _ _)))
  show wpAny _ _ (Builtin.Tuple.tupleItemsOf (.ref t) >>= _) _ _ s
  refine wpAny_bind (tupleItemsOf_ ht ?_)
  refine wpAny_bind (wpAny_typeOf hTs ?_)
  rw [if_pos (by decide)]
  have happ : ∀ (A : Around) (E : _) (Q : Int × Int × Nat → Shared → Prop), Q ((items.size : Int) - 1, -1, items.size) s → wpAny (model prog w) A (Builtin.Slice.sliceApplied (.ref sl) (pure (items.size : Int))) Q E s := by
    intro A E Q hQ
    unfold Builtin.Slice.sliceApplied Builtin.Slice.sliceFields
    refine wpAny_bind (wpAny_bind (wpAny_field hos hds (x := vl) rfl (wpAny_bind (wpAny_field hos hds (x := vu) rfl (wpAny_bind (wpAny_field hos hds (x := vs) rfl (wpAny_pure ?_)))))))
    refine wpAny_bind (slicePart_ ps ?_)
    show wpAny _ _ (if ((-1 : Int) == 0) = true then _ else _) _ _ s
    rw [if_neg (by decide)]
    refine wpAny_bind (slicePart_ pl (wpAny_bind (slicePart_ pu (wpAny_bind (wpAny_pure ?_)))))
    have e1 : Builtin.Slice.sliceAdjust none none (-1) (items.size : Int) = ((items.size : Int) - 1, -1) := by
      unfold Builtin.Slice.sliceAdjust
      simp
    show wpAny _ _ (match Builtin.Slice.sliceAdjust none none (-1) (items.size : Int) with | (lo, hi) => pure (lo, (-1 : Int), Builtin.Slice.slicePlaces lo hi (-1))) _ _ s
    rw [e1]
    show wpAny _ _ (pure ((items.size : Int) - 1, (-1 : Int), Builtin.Slice.slicePlaces ((items.size : Int) - 1) (-1) (-1))) _ _ s
    have e2 : Builtin.Slice.slicePlaces ((items.size : Int) - 1) (-1) (-1) = items.size := by
      unfold Builtin.Slice.slicePlaces
      simp
      omega
    rw [e2]
    exact wpAny_pure hQ
  refine wpAny_bind (happ _ _ _ ?_)
  have hno : ¬ ((((items.size : Int) - 1) == 0 && (-1 : Int) == 1 && items.size == items.size) = true) := by simp
  show wpAny _ _ (if (((items.size : Int) - 1) == 0 && (-1 : Int) == 1 && items.size == items.size) = true then _ else _) _ _ s
  rw [if_neg hno, rev_pick]
  first
    | exact wpAny_bind (m := Builtin.Tuple.tupleExact _) (wpAny_newObj_type (wpAny_pure ⟨_, rfl, wpAny_pure h⟩) htake)
    | exact wpAny_bind (m := Builtin.Tuple.tupleExact _) (wpAny_newObj_type (wpAny_bind (wpAny_pure (wpAny_pure ⟨_, rfl, wpAny_pure h⟩))) htake)
    | exact wpAny_bind (wpAny_bind (m := Builtin.Tuple.tupleExact _) (wpAny_newObj_type (wpAny_pure (wpAny_pure ⟨_, rfl, wpAny_pure h⟩)) htake))
    | exact wpAny_bind (wpAny_bind (m := Builtin.Tuple.tupleExact _) (wpAny_newObj_type (wpAny_pure ⟨_, rfl, wpAny_pure h⟩) htake))
end
end HT
namespace L2
open PySem PySem.Spec PyProof.Rows
def tRevA (K : PySem.W.Frag) (te : TE) : TE := fun σ H Q => te σ H fun x H1 => ∃ a xs, x = .ref a ∧ ((SqL K H1 a xs ∧ ∀ p, H1 p = none → Q (.ref p) (upd H1 p (.lst xs.reverse))) ∨ (SqT K H1 a xs ∧ ∀ p, H1 p = none → Q (.ref p) (upd H1 p (.tup xs.reverse))))
theorem pe_revA {X : Cx} {e : PySem.Expr} {te : TE} {k : Nat} {p1 p2 p3 pos : Pos} (he : PE X e te) : PE X (.Subscript e (.Slice none none (some (.UnaryOp .USub (.Constant (.int 1) k p1) p2)) p3) pos) (tRevA X.K te) := by
  refine ⟨fun pins s σ H Q I h => ?_⟩
  refine Subscript_ (thn (he.run pins s σ H _ I h) fun v s1 ⟨x, H1, I1, r1, q1⟩ => ?_)
  obtain ⟨a, xs, ex, q1⟩ := q1
  subst ex
  cases r1
  have hst : PO X (some (.UnaryOp .USub (.Constant (.int 1) k p1) p2)) (tPart (tUn (rU fun i => .int (-i)) (tC (.int 1)))) := po_some (pe_un un_neg pe_int)
  refine wpAny_Slice (thn (po_none.run pins s1 σ H1 (fun o H2 => o = none ∧ H2 = H1) I1 ⟨rfl, rfl⟩) fun vl s2 ⟨l, H2, I2, pl, el, e2⟩ => ?_)
  subst el e2
  refine thn (po_none.run pins s2 σ H2 (fun o H3 => o = none ∧ H3 = H2) I2 ⟨rfl, rfl⟩) fun vu s3 ⟨u, H3, I3, pu, eu, e3⟩ => ?_
  subst eu e3
  refine thn (hst.run pins s3 σ H3 (fun o H4 => o = some (-1) ∧ H4 = H3) I3 ⟨1, rfl, -1, rfl, rfl, rfl⟩) fun vs s4 ⟨o, H4, I4, ps, eo, e4⟩ => ?_
  subst eo e4
  have I5 : Inv X pins σ H4 { s4 with heap := s4.heap.push { cls := .type "slice", data := .fields #[vl, vu, vs] } } := I4.kept (t' := s4.toks) fun b ob q => Heap.get?_push_of_some _ q
  show wpAny (model X.prog X.w) X.A (subscriptTail e (.Slice none none (some (.UnaryOp .USub (.Constant (.int 1) k p1) p2)) p3) (.ref a) (.ref s4.heap.objs.size)) (EP X pins σ Q) X.xe { s4 with heap := s4.heap.push { cls := .type "slice", data := .fields #[vl, vu, vs] } }
  rcases q1 with ⟨hx, q⟩ | ⟨hx, q⟩
  · obtain ⟨its, r, ht, hz⟩ := I5.list hx
    have hlen := r.length
    refine tail_any (ops := [.ref a, .ref s4.heap.objs.size]) ht.isList.typeIs (PySem.slot_list_getitem.lookup) ?_ (by with_unfolding_all rfl)
    refine wpAny_getItem_list_slice ht.isList (Heap.IsSliceOf.new _ vl vu vs) pl pu ps (by decide) ?_ (by rw [List.size_toArray]; omega)
    rw [PySem.W.krv_pick]
    refine ⟨.ref _, _, I5.laid (t' := s4.toks) (o := .lst xs.reverse) (fun b ob q => Heap.get?_push_of_some _ q) (Nat.le_refl _) ?_, rfl, q _ (I5.hok.fresh (Nat.le_refl _))⟩
    exact ⟨by rw [List.length_reverse]; exact hz, _, 0, r.reverse, Heap.get?_push_size _ rfl⟩
  · obtain ⟨its, r, ht, hz⟩ := I5.tuple hx
    have hlen := r.length
    refine tail_any (ops := [.ref a, .ref s4.heap.objs.size]) ht.typeIs (PyProof.Rows.slot_tuple_getitem.lookup) ?_ (by with_unfolding_all rfl)
    refine HT.getItem_tuple_rev ht (Heap.IsSliceOf.new _ vl vu vs) pl pu ps ?_ (by rw [List.size_toArray]; omega)
    refine ⟨.ref _, _, I5.laid (t' := s4.toks) (o := .tup xs.reverse) (fun b ob q => Heap.get?_push_of_some _ q) (Nat.le_refl _) ?_, rfl, q _ (I5.hok.fresh (Nat.le_refl _))⟩
    exact ⟨by rw [List.length_reverse]; exact hz, its.reverse, r.reverse, IsTup.new _ _⟩
end L2

namespace Nf
open PySem PySem.Spec PyProof.Rows L2

section
variable {z : Cz} {W : Wx} {X : Cx} {L : Lk} {H : Hp} {t : Tin} {R : Rr}

/-! ### built-ins by values -/
def rdC (z : Cz) (R : Rr) (op : List Val → Option Val) : List V → Hp → VK → Prop := fun xs H Q => ∃ L vs t r, Ok z L H t ∧ Rs (RO z) L H L H vs xs ∧ op vs = some r ∧ ∀ u H' L', Go z L H t L' H' t → R L H L' H' r u → Q u H'
theorem rd_b {op : List Val → Option Val} {a : A} (hR : RBack z R) {σ H Q} (h : rd z W R (eB op a) σ H Q) : tCB (rdC z R op) (rdA z W (RO z) a) σ H Q := by
  obtain ⟨L0, H0, t0, L, env, t, r, h⟩ := h
  refine ⟨L0, H0, t0, L, env, t, r, ?_⟩
  simp only [eB] at h
  cases e : a env t with
  | bad => rw [e] at h; exact h
  | exc k t' => rw [e] at h; exact h
  | ok vs t1 =>
    rw [e] at h
    simp only [Res.bind_ok] at h
    intro xs H1 L1 g1 rx
    cases e3 : op vs with
    | none => rw [e3] at h; exact h.elim
    | some q =>
      rw [e3] at h
      exact ⟨L1, vs, t1, q, g1.ok, Rs.imp (show ∀ v x, RO z L H L1 H1 v x → RO z L1 H1 L1 H1 v x from fun _ _ h => h) rx, e3, fun u H' L' g3 ru => h u H' L' (g1.trans g3) (hR.go g1 ru)⟩
variable {e : Expr} {es : List Expr} {a : A} {x : PySem.Str} {p pos : Pos} {op : List Val → Option Val}
theorem xbf {id : String} (hR : RBack z R) (hc : CallR X (.builtin id) (rdC z R op)) (hg : Gl X x) (hm : X.mg x = none) (hv : bootBuiltins x = some (.builtin id)) (ha : PA X (e :: es) (rdA z W (RO z) a)) (hn : x ≠ "__name__" := by decide) (hdb : (x == ("__debug__" : PySem.Str)) = false := by decide)
    (he : starEach (e :: es) X.env = (false, eval e X.env) :: starEach es X.env := by rfl) (hpl : (backTo pos (starEach es X.env)).any (·.1) = false := by rfl) :
    PE X (.Call (.Name x p) (e :: es) [] pos) (rd z W R (eB op a)) := (pe_callB hc hg hm hv ha hn hdb he hpl).imp fun _ _ _ => rd_b hR
theorem xbt {T : String} (hR : RBack z R) (hc : CallR X (.type T) (rdC z R op)) (hg : Gl X x) (hm : X.mg x = none) (hv : bootBuiltins x = some (.type T)) (ha : PA X (e :: es) (rdA z W (RO z) a)) (hn : x ≠ "__name__" := by decide) (hdb : (x == ("__debug__" : PySem.Str)) = false := by decide)
    (he : starEach (e :: es) X.env = (false, eval e X.env) :: starEach es X.env := by rfl) (hpl : (backTo pos (starEach es X.env)).any (·.1) = false := by rfl) :
    PE X (.Call (.Name x p) (e :: es) [] pos) (rd z W R (eB op a)) := (pe_callTy hc hg hm hv ha hn hdb he hpl).imp fun _ _ _ => rd_b hR
theorem Rs.one {R : Rr} {L H L' H' : _} {v : Val} {ys : List V} (h : Rs R L H L' H' [v] ys) : ∃ y, ys = [y] ∧ R L H L' H' v y := by
  obtain ⟨y, r, rfl, h1, h2⟩ := h
  cases (show r = [] from h2)
  exact ⟨y, rfl, h1⟩
theorem Rs.two {R : Rr} {L H L' H' : _} {v w : Val} {ys : List V} (h : Rs R L H L' H' [v, w] ys) : ∃ y u, ys = [y, u] ∧ R L H L' H' v y ∧ R L H L' H' w u := by
  obtain ⟨y, r, rfl, h1, h2⟩ := h
  obtain ⟨u, rfl, h3⟩ := Rs.one h2
  exact ⟨y, u, rfl, h1, h3⟩
theorem cs_len [F : Fit z X] : CallR X (.builtin "len") (rdC z (RE z) bLen) := by
  intro pins s σ H xs us Q I rx h
  obtain ⟨L, vs, t, r, ok, hv, e, q⟩ := h
  match vs, e with
  | [.tup ws], e =>
    simp only [bLen, Option.some.injEq] at e; subst e
    obtain ⟨y, rfl, h1⟩ := hv.one
    obtain ⟨a, ys, rfl, h2, h3⟩ := h1.tup
    refine call_len_seq pins s σ H _ us Q I rx ⟨a, ys, rfl, .inr (by rw [F.K]; exact h2), ?_⟩
    rw [h3.len]
    exact q _ H L (.refl ok) (by simp [RE, Rv])
  | [.lst ws], e =>
    simp only [bLen, Option.some.injEq] at e; subst e
    obtain ⟨y, rfl, h1⟩ := hv.one
    obtain ⟨a, ys, rfl, h2, h3⟩ := h1.lst
    refine call_len_seq pins s σ H _ us Q I rx ⟨a, ys, rfl, .inl (.inl (.inl h2)), ?_⟩
    rw [h3.len]
    exact q _ H L (.refl ok) (by simp [RE, Rv])
theorem cs_abs : CallR X (.builtin "abs") (rdC z (RE z) bAbs) := by
  intro pins s σ H xs us Q I rx h
  obtain ⟨L, vs, t, r, ok, hv, e, q⟩ := h
  match vs, e with
  | [.int i], e =>
    simp only [bAbs, Option.some.injEq] at e; subst e
    obtain ⟨y, rfl, h1⟩ := hv.one
    cases h1.int
    exact call_abs pins s σ H _ us Q I rx ⟨i, rfl, q _ H L (.refl ok) (by simp [RE, Rv])⟩
theorem foldl_max_mem : ∀ (r : List Int) (n : Int), r.foldl max n = n ∨ r.foldl max n ∈ r
  | [], n => .inl rfl
  | a :: r, n => by
    simp only [List.foldl_cons]
    rcases foldl_max_mem r (max n a) with h | h
    · rw [h]
      rcases Int.le_total n a with c | c
      · rw [Int.max_eq_right c]; exact .inr List.mem_cons_self
      · rw [Int.max_eq_left c]; exact .inl rfl
    · exact .inr (List.mem_cons_of_mem _ h)
theorem foldl_max_le : ∀ (r : List Int) (n : Int), n ≤ r.foldl max n ∧ ∀ y ∈ r, y ≤ r.foldl max n
  | [], n => ⟨Int.le_refl _, by simp⟩
  | a :: r, n => by
    simp only [List.foldl_cons]
    have h := foldl_max_le r (max n a)
    refine ⟨Int.le_trans (Int.le_max_left n a) h.1, fun y hy => ?_⟩
    rcases List.mem_cons.mp hy with e | hy
    · rw [e]; exact Int.le_trans (Int.le_max_right n a) h.1
    · exact h.2 y hy
theorem foldl_min_mem : ∀ (r : List Int) (n : Int), r.foldl min n = n ∨ r.foldl min n ∈ r
  | [], n => .inl rfl
  | a :: r, n => by
    simp only [List.foldl_cons]
    rcases foldl_min_mem r (min n a) with h | h
    · rw [h]
      rcases Int.le_total n a with c | c
      · rw [Int.min_eq_left c]; exact .inl rfl
      · rw [Int.min_eq_right c]; exact .inr List.mem_cons_self
    · exact .inr (List.mem_cons_of_mem _ h)
theorem foldl_min_le : ∀ (r : List Int) (n : Int), r.foldl min n ≤ n ∧ ∀ y ∈ r, r.foldl min n ≤ y
  | [], n => ⟨Int.le_refl _, by simp⟩
  | a :: r, n => by
    simp only [List.foldl_cons]
    have h := foldl_min_le r (min n a)
    refine ⟨Int.le_trans h.1 (Int.min_le_left n a), fun y hy => ?_⟩
    rcases List.mem_cons.mp hy with e | hy
    · rw [e]; exact Int.le_trans h.1 (Int.min_le_right n a)
    · exact h.2 y hy
theorem cs_max [F : Fit z X] : CallR X (.builtin "max") (rdC z (RE z) bMax) := by
  intro pins s σ H xs us Q I rx h
  obtain ⟨L, vs, t, r, ok, hv, e, q⟩ := h
  match vs, e with
  | [.int i, .int j], e =>
    simp only [bMax, Option.some.injEq] at e; subst e
    obtain ⟨y, w, rfl, h1, h2⟩ := hv.two
    cases h1.int; cases h2.int
    exact call_max2 F.calm pins s σ H _ us Q I rx ⟨i, j, rfl, q _ H L (.refl ok) (by simp [RE, Rv])⟩
  | [.lst ws], e =>
    simp only [bMax, Option.bind_eq_some_iff] at e
    obtain ⟨ns, e1, e2⟩ := e
    obtain ⟨y, rfl, h1⟩ := hv.one
    obtain ⟨a, ys, rfl, h2, h3⟩ := h1.lst
    have e3 := h3.intsOf e1
    subst e3
    cases ns with
    | nil => cases e2
    | cons n ns =>
      simp only [Option.some.injEq] at e2; subst e2
      refine cr_max F.calm pins s σ H _ us Q I rx ⟨a, n :: ns, rfl, .inl (.inl h2), by simp, fun m hm hle => ?_⟩
      have hm' : m = ns.foldl max n := by
        have h4 := foldl_max_le ns n
        have h5 := foldl_max_mem ns n
        refine Int.le_antisymm ?_ ?_
        · rcases List.mem_cons.mp hm with e | hm
          · rw [e]; exact h4.1
          · exact h4.2 m hm
        · rcases h5 with h5 | h5
          · rw [h5]; exact hle n List.mem_cons_self
          · exact hle _ (List.mem_cons_of_mem _ h5)
      rw [hm']
      exact q _ H L (.refl ok) (by simp [RE, Rv])
  | [.tup ws], e =>
    simp only [bMax, Option.bind_eq_some_iff] at e
    obtain ⟨ns, e1, e2⟩ := e
    obtain ⟨y, rfl, h1⟩ := hv.one
    obtain ⟨a, ys, rfl, h2, h3⟩ := h1.tup
    have e3 := h3.intsOf e1
    subst e3
    cases ns with
    | nil => cases e2
    | cons n ns =>
      simp only [Option.some.injEq] at e2; subst e2
      rw [← F.K] at h2
      obtain ⟨its, rv, pl, hz⟩ := I.tuple h2
      rw [Vals.ref1 rx]
      refine PySem.W.max_tuple_datum (x := n) (xs := ns) (I.ok.hd F.calm) (show s.heap.IsTuple a its.toArray from pl) (PySem.W.HoldAll.of_ints rv.ints) (by have := F.hu; show X.A.units + 1 + 0 < cLine; omega) fun i v h' tk hi hh hk => ?_
      have ex : PySem.W.maxOf n ns = ns.foldl max n := by
        unfold PySem.W.maxOf
        congr 1
        funext a y
        show (if decide (a < y) = true then y else a) = max a y
        by_cases c : a < y
        · rw [if_pos (decide_eq_true c)]; omega
        · rw [if_neg (by simpa using c)]; omega
      rw [ex] at hh
      obtain ⟨bs, hr⟩ := hh
      cases hr
      exact ⟨.int _, H, I.kept hk, ⟨_, rfl⟩, q _ H L (.refl ok) (by simp [RE, Rv])⟩
theorem cs_min [F : Fit z X] : CallR X (.builtin "min") (rdC z (RE z) bMin) := by
  intro pins s σ H xs us Q I rx h
  obtain ⟨L, vs, t, r, ok, hv, e, q⟩ := h
  match vs, e with
  | [.int i, .int j], e =>
    simp only [bMin, Option.some.injEq] at e; subst e
    obtain ⟨y, w, rfl, h1, h2⟩ := hv.two
    cases h1.int; cases h2.int
    exact call_min2 F.calm pins s σ H _ us Q I rx ⟨i, j, rfl, q _ H L (.refl ok) (by simp [RE, Rv])⟩
  | [.lst ws], e =>
    simp only [bMin, Option.bind_eq_some_iff] at e
    obtain ⟨ns, e1, e2⟩ := e
    obtain ⟨y, rfl, h1⟩ := hv.one
    obtain ⟨a, ys, rfl, h2, h3⟩ := h1.lst
    have e3 := h3.intsOf e1
    subst e3
    cases ns with
    | nil => cases e2
    | cons n ns =>
      simp only [Option.some.injEq] at e2; subst e2
      refine cr_min F.calm pins s σ H _ us Q I rx ⟨a, n :: ns, rfl, .inl (.inl h2), by simp, fun m hm hle => ?_⟩
      have hm' : m = ns.foldl min n := by
        have h4 := foldl_min_le ns n
        have h5 := foldl_min_mem ns n
        refine Int.le_antisymm ?_ ?_
        · rcases h5 with h5 | h5
          · rw [h5]; exact hle n List.mem_cons_self
          · exact hle _ (List.mem_cons_of_mem _ h5)
        · rcases List.mem_cons.mp hm with e | hm
          · rw [e]; exact h4.1
          · exact h4.2 m hm
      rw [hm']
      exact q _ H L (.refl ok) (by simp [RE, Rv])
  | [.tup ws], e =>
    simp only [bMin, Option.bind_eq_some_iff] at e
    obtain ⟨ns, e1, e2⟩ := e
    obtain ⟨y, rfl, h1⟩ := hv.one
    obtain ⟨a, ys, rfl, h2, h3⟩ := h1.tup
    have e3 := h3.intsOf e1
    subst e3
    cases ns with
    | nil => cases e2
    | cons n ns =>
      simp only [Option.some.injEq] at e2; subst e2
      rw [← F.K] at h2
      obtain ⟨its, rv, pl, hz⟩ := I.tuple h2
      rw [Vals.ref1 rx]
      refine PySem.W.min_tuple_datum (x := n) (xs := ns) (I.ok.hd F.calm) (show s.heap.IsTuple a its.toArray from pl) (PySem.W.HoldAll.of_ints rv.ints) (by have := F.hu; show X.A.units + 1 + 0 < cLine; omega) fun i v h' tk hi hh hk => ?_
      have ex : PySem.W.minOf n ns = ns.foldl min n := by
        unfold PySem.W.minOf
        congr 1
        funext a y
        show (if decide (y < a) = true then y else a) = min a y
        by_cases c : y < a
        · rw [if_pos (decide_eq_true c)]; omega
        · rw [if_neg (by simpa using c)]; omega
      rw [ex] at hh
      obtain ⟨bs, hr⟩ := hh
      cases hr
      exact ⟨.int _, H, I.kept hk, ⟨_, rfl⟩, q _ H L (.refl ok) (by simp [RE, Rv])⟩
theorem cs_sum [F : Fit z X] : CallR X (.builtin "sum") (rdC z (RE z) bSum) := by
  intro pins s σ H xs us Q I rx h
  obtain ⟨L, vs, t, r, ok, hv, e, q⟩ := h
  match vs, e with
  | [.lst ws], e =>
    simp only [bSum, Option.map_eq_some_iff] at e
    obtain ⟨ns, e1, rfl⟩ := e
    obtain ⟨y, rfl, h1⟩ := hv.one
    obtain ⟨a, ys, rfl, h2, h3⟩ := h1.lst
    have e3 := h3.intsOf e1
    subst e3
    exact cr_sum F.calm pins s σ H _ us Q I rx ⟨a, ns, rfl, .inl (.inl h2), q _ H L (.refl ok) (by simp [RE, Rv])⟩
theorem cs_all [F : Fit z X] : CallR X (.builtin "all") (rdC z (RE z) bAll) := by
  intro pins s σ H xs us Q I rx h
  obtain ⟨L, vs, t, r, ok, hv, e, q⟩ := h
  match vs, e with
  | [.lst ws], e =>
    simp only [bAll, Option.map_eq_some_iff] at e
    obtain ⟨ns, e1, rfl⟩ := e
    obtain ⟨y, rfl, h1⟩ := hv.one
    obtain ⟨a, ys, rfl, h2, h3⟩ := h1.lst
    have e3 := h3.boolsOf e1
    subst e3
    exact cr_all F.calm pins s σ H _ us Q I rx ⟨a, ns, rfl, .inl (.inl h2), q _ H L (.refl ok) (by simp [RE, Rv])⟩
theorem cs_any [F : Fit z X] : CallR X (.builtin "any") (rdC z (RE z) bAny) := by
  intro pins s σ H xs us Q I rx h
  obtain ⟨L, vs, t, r, ok, hv, e, q⟩ := h
  match vs, e with
  | [.lst ws], e =>
    simp only [bAny, Option.map_eq_some_iff] at e
    obtain ⟨ns, e1, rfl⟩ := e
    obtain ⟨y, rfl, h1⟩ := hv.one
    obtain ⟨a, ys, rfl, h2, h3⟩ := h1.lst
    have e3 := h3.boolsOf e1
    subst e3
    exact cr_any F.calm pins s σ H _ us Q I rx ⟨a, ns, rfl, .inl (.inl h2), q _ H L (.refl ok) (by simp [RE, Rv])⟩
theorem cs_int : CallR X (.type "int") (rdC z (RE z) bInt) := by
  intro pins s σ H xs us Q I rx h
  obtain ⟨L, vs, t, r, ok, hv, e, q⟩ := h
  match vs, e with
  | [.int i], e =>
    simp only [bInt, Option.some.injEq] at e; subst e
    obtain ⟨y, rfl, h1⟩ := hv.one
    cases h1.int
    exact call_int1 pins s σ H _ us Q I rx (.inl ⟨i, rfl, q _ H L (.refl ok) (by simp [RE, Rv])⟩)
  | [.bl i], e =>
    simp only [bInt, Option.some.injEq] at e; subst e
    obtain ⟨y, rfl, h1⟩ := hv.one
    cases h1.bl
    exact call_int1 pins s σ H _ us Q I rx (.inr ⟨i, rfl, q _ H L (.refl ok) (by simp [RE, Rv])⟩)
theorem cs_list [F : Fit z X] : CallR X (.type "list") (rdC z (RN z) bList) := by
  intro pins s σ H xs us Q I rx h
  obtain ⟨L, vs, t, r, ok, hv, e, q⟩ := h
  match vs, e with
  | [.tup ws], e =>
    simp only [bList, Option.some.injEq] at e; subst e
    obtain ⟨y, rfl, h1⟩ := hv.one
    obtain ⟨a, ys, rfl, h2, h3⟩ := h1.tup
    exact call_list_of pins s σ H _ us Q I rx ⟨a, ys, rfl, .inr (by rw [F.K]; exact h2), fun p hp => newN ok h3 q hp⟩
  | [.lst ws], e =>
    simp only [bList, Option.some.injEq] at e; subst e
    obtain ⟨y, rfl, h1⟩ := hv.one
    obtain ⟨a, ys, rfl, h2, h3⟩ := h1.lst
    exact call_list_of pins s σ H _ us Q I rx ⟨a, ys, rfl, .inl (.inl (.inl h2)), fun p hp => newN ok h3 q hp⟩
theorem cs_tuple [F : Fit z X] : CallR X (.type "tuple") (rdC z (RE z) bTuple) := by
  intro pins s σ H xs us Q I rx h
  obtain ⟨L, vs, t, r, ok, hv, e, q⟩ := h
  match vs, e with
  | [.tup ws], e =>
    simp only [bTuple, Option.some.injEq] at e; subst e
    obtain ⟨y, rfl, h1⟩ := hv.one
    obtain ⟨a, ys, rfl, h2, h3⟩ := h1.tup
    refine call_tuple_of pins s σ H _ us Q I rx ⟨a, ys, rfl, .inr ⟨by rw [F.K]; exact h2, ?_⟩⟩
    refine q _ H L (.refl ok) ?_
    simp only [RE, Rv]
    exact ⟨a, ys, rfl, h2, h3⟩
  | [.lst ws], e =>
    simp only [bTuple, Option.some.injEq] at e; subst e
    obtain ⟨y, rfl, h1⟩ := hv.one
    obtain ⟨a, ys, rfl, h2, h3⟩ := h1.lst
    exact call_tuple_of pins s σ H _ us Q I rx ⟨a, ys, rfl, .inl ⟨.inl (.inl h2), fun p hp => newT ok h3 q hp⟩⟩
theorem sortI_perm : ∀ l : List Int, (sortI l).Perm l
  | [] => .refl _
  | a :: l => by
    have hi : ∀ (r : List Int), (insI a r).Perm (a :: r) := by
      intro r
      induction r with
      | nil => exact .refl _
      | cons b r ih =>
        simp only [insI]
        split
        · exact .refl _
        · exact (List.Perm.cons b ih).trans (List.Perm.swap a b r)
    exact (hi (sortI l)).trans (List.Perm.cons a (sortI_perm l))
theorem insI_mem {a x : Int} : ∀ {r : List Int}, x ∈ insI a r → x = a ∨ x ∈ r
  | [], h => by simp [insI] at h; exact .inl h
  | b :: r, h => by
    simp only [insI] at h
    split at h
    · rcases List.mem_cons.mp h with h | h
      · exact .inl h
      · exact .inr h
    · rcases List.mem_cons.mp h with h | h
      · rw [h]; exact .inr List.mem_cons_self
      · rcases insI_mem h with h | h
        · exact .inl h
        · exact .inr (List.mem_cons_of_mem _ h)
theorem insI_sorted {a : Int} : ∀ {r : List Int}, r.Pairwise (· ≤ ·) → (insI a r).Pairwise (· ≤ ·)
  | [], _ => by simp [insI]
  | b :: r, h => by
    simp only [insI]
    have h' := List.pairwise_cons.mp h
    split
    · rename_i hab
      refine List.pairwise_cons.mpr ⟨fun x hx => ?_, h⟩
      rcases List.mem_cons.mp hx with hx | hx
      · rw [hx]; exact hab
      · exact Int.le_trans hab (h'.1 x hx)
    · rename_i hab
      refine List.pairwise_cons.mpr ⟨fun x hx => ?_, insI_sorted h'.2⟩
      rcases insI_mem hx with hx | hx
      · rw [hx]; omega
      · exact h'.1 x hx
theorem sortI_sorted : ∀ l : List Int, (sortI l).Pairwise (· ≤ ·)
  | [] => List.Pairwise.nil
  | a :: l => insI_sorted (sortI_sorted l)
theorem sorted_eq : ∀ {l m : List Int}, l.Perm m → l.Pairwise (· ≤ ·) → m.Pairwise (· ≤ ·) → l = m := by
  intro l m p h1 h2
  exact List.Perm.eq_of_pairwise (fun a b _ _ h h' => Int.le_antisymm h h') h1 h2 p
theorem cs_sorted [F : Fit z X] : CallR X (.builtin "sorted") (rdC z (RN z) fun vs => match vs with
    | [.lst xs] => (intsOf xs).map fun ns => .lst ((sortI ns).map .int)
    | _ => none) := by
  intro pins s σ H xs us Q I rx h
  obtain ⟨L, vs, t, r, ok, hv, e, q⟩ := h
  match vs, e with
  | [.lst ws], e =>
    simp only [Option.map_eq_some_iff] at e
    obtain ⟨ns, e1, rfl⟩ := e
    obtain ⟨y, rfl, h1⟩ := hv.one
    obtain ⟨a, ys, rfl, h2, h3⟩ := h1.lst
    have e3 := h3.intsOf e1
    subst e3
    refine cr_sortedI pins s σ H _ us Q I rx ⟨a, ns, rfl, .inl (.inl h2), fun ns' p hp hs hn => ?_⟩
    have e4 : ns' = sortI ns := sorted_eq (hp.trans (sortI_perm ns).symm) hs (sortI_sorted ns)
    rw [e4]
    exact newN ok (Rvs.ofInts _) q hn

/-! ### places -/
variable {f g : E} {b : Expr} {ea : Expr}
theorem ixOf_eq (n : Nat) (i : Int) : ixOf n i = ixN n i := rfl
def rIxD (X : Cx) : R2 := fun x y H Q => ∃ p v, x = .ref p ∧ DGet H p y (some v) ∧ X.A.units + 1 < cLine ∧ Q v H
theorem ix_dict : IxR X (rIxD X) := by
  intro value slice pins s σ H x y v u Q I rx ry h hs
  obtain ⟨a, v0, rfl, g, hu, q⟩ := h
  obtain rfl : v = Value.ref a := rx
  have hT := dict_typeIs I g
  unfold subscriptTail
  refine wpAny_bind ?_
  rw [getitemInPython_of_ne hT.not_modules]
  refine wpAny_bind (wpAny_specialOf hT PySem.F.slot_dict_getitem.lookup ?_)
  have fin : wpAny (model X.prog X.w) X.A (subscripted slice false (Value.ref a) u) (fun r s₃ => wpAny (model X.prog X.w) X.A (letTemporaryGo value (Value.ref a) r >>= fun _ => pure r) (EP X pins σ Q) X.xe s₃) X.xe s := by
    rw [hs]
    exact wpAny_operating (d_getItem hu I g ry fun w' s3 I3 rw' => wpAny_bind (wpAny_letTemporaryGo (wpAny_pure ⟨v0, H, I3, rw', q⟩)))
  first
    | exact wpAny_pure (wpAny_bind fin)
    | exact wpAny_bind (wpAny_pure (wpAny_bind fin))
    | exact wpAny_bind fin
theorem valV_get {L : Lk} {H : Hp} : ∀ {ks : List Int} {vs : List Val} {zs : List (Key × V)} {i : Int} {w : Val}, zs.map (·.1) = ks.map Sum.inl → Rvs z L H vs (zs.map (·.2)) → dGet i ks vs = some w → ∃ y, valV zs (.inl i) = some y ∧ Rv z L H w y
  | [], vs, zs, i, w, _, _, e => by simp [dGet] at e
  | k :: ks, [], zs, i, w, _, _, e => by simp [dGet] at e
  | k :: ks, v :: vs, [], i, w, h, _, _ => by simp at h
  | k :: ks, v :: vs, p :: zs, i, w, h, r, e => by
    simp only [List.map_cons, List.cons.injEq] at h
    simp only [List.map_cons, Rvs] at r
    obtain ⟨y, r', e0, h1, h2⟩ := r
    cases e0
    simp only [dGet] at e
    by_cases c : k = i
    · rw [if_pos c, Option.some.injEq] at e
      subst e
      exact ⟨p.2, valV_pos (by rw [h.1, c]), h1⟩
    · rw [if_neg c] at e
      obtain ⟨y, e2, r2⟩ := valV_get h.2 h2 e
      exact ⟨y, by rw [valV_neg (fun q => c (by rw [h.1] at q; exact Sum.inl.inj q))]; exact e2, r2⟩
theorem valV_has : ∀ {ks : List Int} {zs : List (Key × V)} (i : Int), zs.map (·.1) = ks.map Sum.inl → (valV zs (.inl i)).isSome = dHas i ks := by
  intro ks zs i h
  rw [← valV_any]
  unfold dHas
  have e : (zs.any fun kv => decide (kv.1 = (Sum.inl i : Key))) = (zs.map (·.1)).any fun k => decide (k = (Sum.inl i : Key)) := by
    rw [List.any_map]; rfl
  rw [e, h, List.any_map]
  congr 1
  funext j
  simp
theorem is_ix [F : Fit z X] : IxR X (rdOp z (RE z) oIx) := by
  intro value slice pins s σ H x y v u Q I rx ry h hs
  obtain ⟨L, v', w', t, r, ok, hv, hw, e, q⟩ := h
  cases v' <;> cases w' <;> simp only [oIx, reduceCtorEq] at e
  · rename_i xs i
    simp only [Option.bind_eq_some_iff] at e
    obtain ⟨j, e1, e2⟩ := e
    obtain ⟨a, us, rfl, h1, r1⟩ := hv.tup
    obtain ⟨y', e3, r2⟩ := r1.get e2
    refine ix_tup value slice pins s σ H _ y v u Q I rx ry ⟨a, us, i, y', rfl, hw.int, by rw [F.K]; exact h1, ?_, q _ H L (.refl ok) r2⟩ hs
    unfold atI
    rw [r1.len, ← ixOf_eq, e1]
    exact e3
  · rename_i xs i
    simp only [Option.bind_eq_some_iff] at e
    obtain ⟨j, e1, e2⟩ := e
    obtain ⟨a, us, rfl, h1, r1⟩ := hv.lst
    obtain ⟨y', e3, r2⟩ := r1.get e2
    refine ix_list value slice pins s σ H _ y v u Q I rx ry ⟨a, us, i, y', rfl, hw.int, .inl (.inl h1), ?_, q _ H L (.refl ok) r2⟩ hs
    unfold atI
    rw [r1.len, ← ixOf_eq, e1]
    exact e3
  · rename_i ks vs i
    obtain ⟨a, zs, rfl, h1, h2, h3⟩ := hv.dct
    obtain ⟨y', e3, r2⟩ := valV_get h2 h3 e
    exact ix_dict value slice pins s σ H _ y v u Q I rx ry ⟨a, y', rfl, hw.int ▸ .inl ⟨zs, .inl i, .inl h1, rfl, e3.symm⟩, by have := F.hu; omega, q _ H L (.refl ok) r2⟩ hs
theorem xix [F : Fit z X] (ha : PE X ea (rd z W (RO z) f)) (hb : PE X b (rd z W (RO z) g)) (hs : PlainIx b := by exact fun _ _ => rfl) : PE X (.Subscript ea b pos) (rd z W (RE z) (eOp oIx f g)) :=
  (pe_ix is_ix ha hb hs).imp fun _ _ _ => rd_op RE.back
/-- tin[k] -/
theorem xtin [F : Fit z X] (i k : Nat) {y : PySem.Str} {p2 p3 : Pos} {j : Nat} (hN : X.N[i]? = some y := by rfl) (hv : Vis X.env.scope y := by first | exact Or.inl rfl | exact Or.inr (Or.inl rfl) | exact Or.inr (Or.inr rfl)) (hd : (y == ("__debug__" : PySem.Str)) = false := by decide)
    (hcd : (y == ("__classdict__" : PySem.Str)) = false := by decide) : PE X (.Subscript (.Name y p2) (.Constant (.int (k : Int)) j p3) pos) (rd z W (RE z) (eTin i k)) := by
  refine (pe_ix ix_list (pe_var hN hv hd hcd) pe_int (fun _ _ => rfl)).imp fun σ H Q h => ?_
  obtain ⟨L0, H0, t0, L, env, t, r, h⟩ := h
  simp only [eTin] at h
  cases e : env[i]? with
  | none => rw [e] at h; exact h.elim
  | some o =>
    rw [e] at h
    match o, e, h with
    | none, _, h => exact h.elim
    | some (true, v), _, h => exact h.elim
    | some (false, .tin), e, h =>
      obtain ⟨x, hx, hr⟩ := r.val i _ e
      simp only [Rv] at hr
      obtain ⟨a, hta, rfl⟩ := hr
      have hl := (r.ok.2 a hta).2
      match k, h with
      | 0, h => exact ⟨_, hx, a, [.int t.a, .int t.b, .int t.c], 0, .int t.a, rfl, rfl, .inl (.inl hl), rfl, h _ H L (.refl r.ok) (by simp [RE, Rv])⟩
      | 1, h => exact ⟨_, hx, a, [.int t.a, .int t.b, .int t.c], 1, .int t.b, rfl, rfl, .inl (.inl hl), rfl, h _ H L (.refl r.ok) (by simp [RE, Rv])⟩
      | 2, h => exact ⟨_, hx, a, [.int t.a, .int t.b, .int t.c], 2, .int t.c, rfl, rfl, .inl (.inl hl), rfl, h _ H L (.refl r.ok) (by simp [RE, Rv])⟩
      | k + 3, h => exact h.elim
    | some (false, .non), _, h => exact h.elim
    | some (false, .bl _), _, h => exact h.elim
    | some (false, .int _), _, h => exact h.elim
    | some (false, .str _), _, h => exact h.elim
    | some (false, .tup _), _, h => exact h.elim
    | some (false, .lst _), _, h => exact h.elim
    | some (false, .iset _), _, h => exact h.elim
    | some (false, .dct _ _), _, h => exact h.elim
    | some (false, .fn _), _, h => exact h.elim
/-! ### slices -/
def rdP (z : Cz) (W : Wx) (f : P) : TO := fun σ H Q => ∃ L0 H0 t0 L env t, RelS z L0 H0 t0 L env t σ H ∧ match f env t with
  | .ok o t' => ∀ H' L', Go z L H t L' H' t' → Q o H'
  | .exc k t' => ∀ H' L', Go z L H t L' H' t' → W k H'
  | .bad => False
theorem PO.imp {X : Cx} {e : Option Expr} {t t' : TO} (h : PO X e t) (i : ∀ σ H Q, t' σ H Q → t σ H Q) : PO X e t' := ⟨fun pins s σ H Q I q => h.run pins s σ H Q I (i σ H Q q)⟩
theorem xp_no : PO X none (rdP z W pNo) := PO.imp po_none fun σ H Q h => by
  obtain ⟨L0, H0, t0, L, env, t, r, h⟩ := h
  exact h H L (.refl r.ok)
theorem xp_at {pe : Expr} (h : PE X pe (rd z W (RO z) f)) : PO X (some pe) (rdP z W (pAt f)) := PO.imp (po_some h) fun σ H Q h => by
  obtain ⟨L0, H0, t0, L, env, t, r, h⟩ := h
  refine ⟨L0, H0, t0, L, env, t, r, ?_⟩
  simp only [pAt] at h
  cases e : f env t with
  | bad => rw [e] at h; exact h
  | exc k t' => rw [e] at h; exact h
  | ok v t1 =>
    rw [e] at h
    simp only [Res.bind_ok] at h
    intro x H1 L1 g1 rx
    cases v <;> first | exact h.elim | skip
    exact ⟨_, rx.int, h H1 L1 g1⟩
def rdS (z : Cz) (R : Rr) (op : Option Int → Option Int → Val → Option Val) : V → Option Int → Option Int → Hp → VK → Prop := fun x lo hi H Q => ∃ L v t r, Ok z L H t ∧ RO z L H L H v x ∧ op lo hi v = some r ∧ ∀ u H' L', Go z L H t L' H' t → R L H L' H' r u → Q u H'
theorem sIx_eq (n d : Nat) (o : Option Int) : slIx n d o = HT.sIx n d o := by cases o <;> rfl
theorem Rvs.cut {vs : List Val} {ys : List V} (h : Rvs z L H vs ys) (lo hi : Option Int) : Rvs z L H (Nf.cut vs lo hi) (cutV ys lo hi) := by
  unfold Nf.cut cutV
  rw [sIx_eq, sIx_eq, h.len]
  exact (h.drop _).take _
theorem ss_sl [F : Fit z X] : SlR X (rdS z (RE z) oSl) := by
  intro pins s σ H x v vl vu lo hi sl Q I rx hs pl pu h
  obtain ⟨L, v', t, r, ok, hv, e, q⟩ := h
  cases v' <;> simp only [oSl, reduceCtorEq, Option.some.injEq] at e
  · rename_i xs
    subst e
    obtain ⟨a, us, rfl, h1, r1⟩ := hv.tup
    refine sl_tupA pins s σ H _ v vl vu lo hi sl Q I rx hs pl pu ⟨a, us, rfl, by rw [F.K]; exact h1, fun hw => ?_, fun _ p hp => newT ok (r1.cut lo hi) q hp⟩
    refine q _ H L (.refl ok) ?_
    simp only [RE, Rv]
    refine ⟨a, us, rfl, h1, ?_⟩
    have e1 : Nf.cut xs lo hi = xs := by
      unfold Nf.cut
      rw [sIx_eq, sIx_eq, ← r1.len, hw.1, hw.2]
      rw [r1.len]
      simp
    rw [e1]; exact r1
  · rename_i xs
    subst e
    obtain ⟨a, us, rfl, h1, r1⟩ := hv.lst
    exact sl_list pins s σ H _ v vl vu lo hi sl Q I rx hs pl pu ⟨a, us, rfl, .inl (.inl h1), fun p hp => newL ok (r1.cut lo hi) q hp⟩
  · rename_i ns
    subst e
    rcases hv with hv | ⟨_, _, _, e⟩
    case inr => exact e.elim
    simp only [Rv] at hv
    obtain ⟨a, rfl, h1⟩ := hv
    have h1 : SqL X.K H a (ns.map V.int) := by
      rcases h1 with ⟨ob, h1⟩ | h1
      · exact .inl (.inr ⟨ob, h1⟩)
      · rcases h1 with (h1 | ⟨_, h1⟩) | h1
        · cases h1
        · cases h1
        · rw [F.K]; exact .inr h1
    exact sl_list pins s σ H _ v vl vu lo hi sl Q I rx hs pl pu ⟨a, ns.map V.int, rfl, h1, fun p hp => newL ok ((Rvs.ofInts ns).cut lo hi) q hp⟩
theorem xsl [F : Fit z X] {lo hi : Option Expr} {pl ph : P} {p2 : Pos} (ha : PE X ea (rd z W (RO z) f)) (hl : PO X lo (rdP z W pl)) (hh : PO X hi (rdP z W ph)) : PE X (.Subscript ea (.Slice lo hi none p2) pos) (rd z W (RE z) (eSl f pl ph)) := by
  refine (pe_slice (ss_sl (z := z)) ha hl hh).imp fun σ H Q h => ?_
  obtain ⟨L0, H0, t0, L, env, t, r, h⟩ := h
  refine ⟨L0, H0, t0, L, env, t, r, ?_⟩
  simp only [eSl] at h
  cases e : f env t with
  | bad => rw [e] at h; exact h
  | exc k t' => rw [e] at h; exact h
  | ok v t1 =>
    rw [e] at h
    simp only [Res.bind_ok] at h
    intro x H1 L1 g1 rx
    refine ⟨L0, H0, t0, L1, env, t1, r.go g1, ?_⟩
    cases e2 : pl env t1 with
    | bad => rw [e2] at h; exact h
    | exc k t' => rw [e2] at h; exact fun H' L' g2 => h H' L' (g1.trans g2)
    | ok a t2 =>
      rw [e2] at h
      simp only [Res.bind_ok] at h
      intro H2 L2 g2
      refine ⟨L0, H0, t0, L2, env, t2, (r.go g1).go g2, ?_⟩
      cases e3 : ph env t2 with
      | bad => rw [e3] at h; exact h
      | exc k t' => rw [e3] at h; exact fun H' L' g3 => h H' L' (g1.trans (g2.trans g3))
      | ok b t3 =>
        rw [e3] at h
        simp only [Res.bind_ok] at h
        intro H3 L3 g3
        cases e4 : oSl a b v with
        | none => rw [e4] at h; exact h.elim
        | some q =>
          rw [e4] at h
          exact ⟨L3, v, t3, q, g3.ok, RO.go (g2.trans g3) rx, e4, fun u H' L' g4 ru => h u H' L' (g1.trans (g2.trans (g3.trans g4))) ru⟩
theorem xrev [F : Fit z X] {k : Nat} {p1 p2 p3 : Pos} (ha : PE X ea (rd z W (RO z) f)) : PE X (.Subscript ea (.Slice none none (some (.UnaryOp .USub (.Constant (.int 1) k p1) p2)) p3) pos) (rd z W (RE z) (eUn oRev f)) := by
  refine (pe_revA ha).imp fun σ H Q h => ?_
  obtain ⟨L0, H0, t0, L, env, t, r, h⟩ := h
  refine ⟨L0, H0, t0, L, env, t, r, ?_⟩
  simp only [eUn] at h
  cases e : f env t with
  | bad => rw [e] at h; exact h
  | exc k t' => rw [e] at h; exact h
  | ok v t1 =>
    rw [e] at h
    simp only [Res.bind_ok] at h
    intro x H1 L1 g1 rx
    cases v <;> simp only [oRev] at h <;> try exact h.elim
    · obtain ⟨a, us, rfl, h1, r1⟩ := rx.tup
      exact ⟨a, us, rfl, .inr ⟨by rw [F.K]; exact h1, fun p hp => newT g1.ok r1.reverse (fun u H' L' g ru => h u H' L' (g1.trans g) ru) hp⟩⟩
    · obtain ⟨a, us, rfl, h1, r1⟩ := rx.lst
      exact ⟨a, us, rfl, .inl ⟨.inl (.inl h1), fun p hp => newL g1.ok r1.reverse (fun u H' L' g ru => h u H' L' (g1.trans g) ru) hp⟩⟩
/-! ### is None, in -/
theorem os_isN : OpR X (compareOp .Is) (rdOp z (RE z) oIsN) := by
  intro pins s σ H x y v u Q I rx ry h
  obtain ⟨L, v', w', t, r, ok, hv, hw, e, q⟩ := h
  cases w' <;> simp only [oIsN, reduceCtorEq] at e
  simp only [cIsN, Option.some.injEq] at e; subst e
  refine op_isN pins s σ H x y v u Q I rx ry ⟨hw.non, ?_⟩
  have hb : decide (x = V.non) = v'.isNon := by
    cases v' <;> simp only [Val.isNon]
    · cases hv.non; exact decide_eq_true rfl
    · cases hv.bl; exact decide_eq_false (fun z => nomatch z)
    · cases hv.int; exact decide_eq_false (fun z => nomatch z)
    · cases hv.str; exact decide_eq_false (fun z => nomatch z)
    · obtain ⟨a, _, rfl, _⟩ := hv.tup; exact decide_eq_false (fun z => nomatch z)
    · obtain ⟨a, _, rfl, _⟩ := hv.lst; exact decide_eq_false (fun z => nomatch z)
    · rcases hv with h | ⟨_, _, _, h⟩
      · simp only [Rv] at h
      · exact h.elim
    · obtain ⟨a, _, rfl, _⟩ := hv.dct; exact decide_eq_false (fun z => nomatch z)
    · rcases hv with h | ⟨_, _, _, h⟩
      · simp only [Rv] at h; obtain ⟨a, _, rfl⟩ := h; exact decide_eq_false (fun z => nomatch z)
      · exact h.elim
    · rcases hv with h | ⟨_, _, _, h⟩
      · simp only [Rv] at h; subst h; exact decide_eq_false (fun z => nomatch z)
      · exact h.elim
    · rcases hv with h | ⟨_, _, _, h⟩
      · simp only [Rv] at h; obtain ⟨a, rfl, _⟩ := h; exact decide_eq_false (fun z => nomatch z)
      · exact h.elim
  rw [hb]
  exact q _ H L (.refl ok) (by simp [RE, Rv])
end
end Nf

namespace PySem
open Sem (wp)
open AutoSeq1 (wpAny_loadPart')
theorem meets_enumerate_newT (l : Addr) (items : Array Value) (n : Nat) (dct : Option Addr) (sl : Array (Option Value)) :
    Meets (Builtin.«enumerate.__new__» ⟨[.type "enumerate", .ref l], []⟩) (fun _ R s => s.heap.get? l = some { cls := .type "tuple", dict := dct, data := .seq items n, slots := sl } ∧
      R (.ok (.ret (.ref (s.heap.push { cls := .type "tuple_iterator", data := .fields #[.ref l, .int 0 0] }).objs.size)))
        { s with heap := (s.heap.push { cls := .type "tuple_iterator", data := .fields #[.ref l, .int 0 0] }).push { cls := .type "enumerate", data := .fields #[.none, .bool false, .ref s.heap.objs.size, rawInt 0, .none, .none] } }) :=
  .of_wp fun prog w A R s h => by
    obtain ⟨hp, g, d, tk, os⟩ := s; obtain ⟨hl, h⟩ := h
    have hsub := sub_enumerate
    have hL : Heap.IsTuple (Shared.heap ⟨hp, g, d, tk, os⟩) l items := ⟨_, hl, rfl, n, rfl⟩
    wp_walk using wpAny_loadPart' hl
    refine wpAny_stack_any fun st => wpAny_pure ?_
    split
    · rename_i c _ _ _ _ _
      cases (c == Value.type "enumerate")
      · wp_walk using wpAny_loadPart' hl, wpAny_pyIter_tuple hL
        exact ⟨_, rfl, h⟩
      · wp_walk using wpAny_loadPart' hl, wpAny_pyIter_tuple hL
        exact ⟨_, rfl, h⟩
    · wp_walk using wpAny_loadPart' hl, wpAny_pyIter_tuple hL
      exact ⟨_, rfl, h⟩
section
variable {prog : Program} {w : World} {A : Around} {E : Value → Shared → Prop} {s : Shared}
theorem call_enumerate_tuple {l : Addr} {items : Array Value} {Q : Value → Shared → Prop} (hL : s.heap.IsTuple l items)
    (h : ∀ h', IsEnum h' (s.heap.objs.size + 1) s.heap.objs.size 0 .none → h'.get? s.heap.objs.size = some { cls := .type "tuple_iterator", data := .fields #[.ref l, .int 0 0] } → h'.objs.size = s.heap.objs.size + 2 →
      (∀ b o, s.heap.get? b = some o → h'.get? b = some o) → Q (.ref (s.heap.objs.size + 1)) { s with heap := h' }) :
    wpAny (model prog w) A (call (.type "enumerate") [.ref l]) Q E s := by
  obtain ⟨⟨c, dct, dt, sl⟩, hl, hc, n, hd⟩ := hL
  replace hc : c = .type "tuple" := hc
  replace hd : dt = .seq items n := hd
  subst hc hd
  refine callType_new F.called_enumerate (by decide) (F.typeCall_enumerate_1 _) (F.newCall_enumerate_1 _) (fun obj => F.args_object_init_2 obj _) F.entry_enumerate_new
    (meets_enumerate_newT l items n dct sl) ⟨hl, ?_⟩
  have hz : (s.heap.push { cls := .type "tuple_iterator", data := .fields #[.ref l, .int 0 0] }).objs.size = s.heap.objs.size + 1 := Heap.size_push ..
  show _ ∧ _
  rw [hz]
  have he : IsEnum ((s.heap.push { cls := .type "tuple_iterator", data := .fields #[.ref l, .int 0 0] }).push
      { cls := .type "enumerate", data := .fields #[.none, .bool false, .ref s.heap.objs.size, rawInt 0, .none, .none] }) (s.heap.objs.size + 1) s.heap.objs.size 0 .none := by
    have := Heap.get?_push_size (s.heap.push { cls := .type "tuple_iterator", data := .fields #[.ref l, .int 0 0] })
      (o := { cls := .type "enumerate", data := .fields #[.none, .bool false, .ref s.heap.objs.size, rawInt 0, .none, .none] }) rfl
    rw [hz] at this; exact this
  refine ⟨⟨_, he, rfl⟩, h _ he (Heap.get?_push_of_some _ (Heap.get?_push_size _ rfl)) (by rw [Heap.size_push, hz]) fun b o x => Heap.get?_push_of_some _ (Heap.get?_push_of_some _ x)⟩
end
end PySem
namespace L2
open PySem PySem.Spec PyProof.Rows
def IteT (K : PySem.W.Frag) (a : Addr) : It :=
  ⟨fun i H => ∃ (xs : List V) (x : V), SqT K H a xs ∧ xs[i]? = some x, fun i H v H' => ∃ T x, v = .ref T ∧ H T = none ∧ H' = upd H T (.tup [.int (i : Nat), x]) ∧ ∀ xs, SqT K H a xs → xs[i]? = some x, fun i H => ∃ xs : List V, SqT K H a xs ∧ xs.length ≤ i⟩
theorem turn_enumT {P : Program} {w : World} {K : PySem.W.Frag} {elts : List PySem.Expr} {kk : Nat} {tpos : Pos} (a e it : Addr) :
    Turn P w K (.Tuple elts kk tpos) (IteT K a) [e, it] e (fun i h => (∃ old, IsEnum h e it ((i : Nat) : Int) old) ∧ h.IsTupleIter it a i ∧ e ≠ it ∧ a ≠ it ∧ e ≠ a) where
  mem := by simp
  obj := fun i h st b hb => by
    obtain ⟨⟨old, he⟩, ⟨o, ho, hc, hd⟩, _⟩ := st
    have e' : b = e ∨ b = it := by simpa using hb
    rcases e' with z | z
    · rw [z]; exact ⟨_, he, fun v q => nomatch q⟩
    · rw [z]; exact ⟨o, ho, fun v q => by rw [hd] at q; cases q⟩
  keep := fun i h h' st k => let ⟨⟨old, he⟩, hi, hne⟩ := st; ⟨⟨old, k e (by simp) _ he⟩, hi.at fun o q => k it (by simp) o q, hne⟩
  item := by
    intro X hP hw hK hc i pins s σ H E I hf st hg
    subst hP hw hK
    obtain ⟨⟨old, he⟩, hit, hne, hai, hea⟩ := st
    obtain ⟨xs, x, hq, hx⟩ := hg
    obtain ⟨its, rv, p, hz⟩ := I.tuple hq
    obtain ⟨u, hu, ru⟩ := rv.get hx
    have hel : e < s.heap.objs.size := Heap.lt_size he
    have hil : it < s.heap.objs.size := by obtain ⟨_, q, _⟩ := hit; exact Heap.lt_size q
    have hlt : i < its.toArray.size := by
      rw [List.size_toArray]
      exact (List.getElem?_eq_some_iff.mp hu).1
    refine wpAny_pyNext_enum_itemD (Draws.tuple (show X.A.in1.handled = none from I.ok.hd hc) it a hai its.toArray) he ⟨hit, show s.heap.IsTuple a its.toArray from p⟩ hlt hne (by simp [hne, hea]) fun v h' tk hv ho hit' hT hsz hk => ?_
    have hv' : v = u := by
      have : its.toArray[i]? = some v := hv
      rw [List.getElem?_toArray, hu] at this
      exact (Option.some.inj this).symm
    subst hv'
    refine ⟨_, rfl, wpAny_letOwnedTupleGo_enum (s := { s with heap := h', toks := tk + 1 }) ho fun h'' he' sb => ?_⟩
    have hT2 : h''.get? s.heap.objs.size = some { cls := .type "tuple", data := .seq #[.int i tk, v] } := (sb.2 _ (Nat.ne_of_gt hel)).trans hT
    have new : ObjOk X.prog X.w (upd H s.heap.objs.size (.tup [.int (i : Nat), x])) h'' s.heap.objs.size (.tup [.int (i : Nat), x]) :=
      ⟨by show 2 ≤ sizeLine; decide, [.int i tk, v], .cons ⟨_, rfl⟩ (.cons ru .nil), ⟨_, hT2, rfl, _, rfl⟩⟩
    have I1 : Inv X pins σ (upd H s.heap.objs.size (.tup [.int (i : Nat), x])) { s with heap := h'', toks := tk + 1 } :=
      I.turnedNew (ch := [e, it]) (fun b ob hb q => (sb.2 b (fun z => hb (by simp [z]))).trans (hk b ob (fun z => hb (by simp [z])) (fun z => hb (by simp [z])) q)) hf (Nat.le_refl _) new
    refine ⟨.ref s.heap.objs.size, _, I1, rfl, ⟨_, x, rfl, I.hok.fresh (Nat.le_refl _), rfl, fun ys hy => by rw [I.tuple_inj hy hq]; exact hx⟩, ⟨⟨v, ?_⟩, hit'.1.at fun o q => (sb.2 it (Ne.symm hne)).trans q, hne, hai, hea⟩, fun b hb => ?_⟩
    · have e1 : ((i + 1 : Nat) : Int) = (i : Int) + 1 := by omega
      rw [e1]; exact he'
    · have hb' : b < s.heap.objs.size := by
        have e' : b = e ∨ b = it := by simpa using hb
        rcases e' with z | z
        · rw [z]; exact hel
        · rw [z]; exact hil
      rw [upd_ne (Nat.ne_of_lt hb')]
      exact (hf b hb).1
  done := by
    intro X hP hw hK hc i pins s σ H E I hf st hg
    subst hP hw hK
    obtain ⟨⟨old, he⟩, hit, hne, hai, hea⟩ := st
    obtain ⟨xs, hq, hx⟩ := hg
    obtain ⟨its, rv, p, hz⟩ := I.tuple hq
    obtain ⟨f0, f1, f2, f3, f4, f5⟩ := hf it (by simp)
    have hl := rv.length
    have hh : X.A.in1.handled = none := I.ok.hd hc
    have hT : s.TypeIs (.ref e) "enumerate" := ⟨_, he, rfl⟩
    unfold pyNext
    refine wpAny_bind (wpAny_attempt (wpAny_callSpecial?_slot (name := Str.ofString "__next__") hT F.slot_enumerate_next
      (wpAny_call_entry F.slot_enumerate_next hT F.entry_enumerate_next ?_ (F.args_enumerate_next_1 _))))
    show wpAny _ _ (field (.ref e) 2 >>= _) _ _ _
    refine wpAny_bind (wpAny_field he rfl (x := .ref it) rfl ?_)
    refine wpAny_bind (wpAny_nextOf_tuple_end hh hit (show s.heap.IsTuple a its.toArray from p) (by rw [List.getElem?_toArray]; exact List.getElem?_eq_none_iff.mpr (by omega)) fun h' x he' hx' => ?_)
    obtain ⟨o, ho, hc⟩ := hx'
    refine wpAny_bind (wpAny_isInstance (T := "StopIteration") (b := true) ⟨o, ho, hc⟩ isSubtype_stop ?_)
    exact wpAny_pure ⟨rfl, I.turned (t' := s.toks) (fun b o hb q => he' b o hb q) f0 f1 f3 f4 f5⟩
  self := fun A i s Q E st h => let ⟨⟨_, he⟩, _⟩ := st; wpAny_pyIter_enum he h
def iEnumA (K : PySem.W.Frag) (ta : TA) : TI := fun σ H R => ta σ H fun vs H1 => ∃ a xs, vs = [.ref a] ∧ ((SqL K H1 a xs ∧ R (Ite K a) H1) ∨ (SqT K H1 a xs ∧ R (IteT K a) H1))
theorem pi_enumA {X : Cx} {e : PySem.Expr} {ta : TA} {p pos tpos : Pos} {elts : List PySem.Expr} {kk : Nat} (hg : Gl X "enumerate") (hm : X.mg "enumerate" = none) (ha : PA X [e] ta) (hs : starEach [e] X.env = [(false, eval e X.env)] := by rfl) :
    PI X (.Tuple elts kk tpos) (.Call (.Name "enumerate" p) [e] [] pos) (iEnumA X.K ta) := by
  refine ⟨fun pins s σ H R I h => ?_⟩
  refine Call_ (ld_blt I hg hm boot_enumerate (PyProof.Rows.callWith_type1 (thn (ha.run pos pins s σ H _ I h) fun us s1 ⟨vs, H1, I1, r1, q1⟩ => ?_) hs rfl))
  obtain ⟨a, xs, ex, q1⟩ := q1
  subst ex
  cases r1 with
  | cons r rr =>
    cases rr
    cases r
    have fresh2 : ∀ b, b ∈ [s1.heap.objs.size + 1, s1.heap.objs.size] → FpOk X pins H1 b := fun b hb => by
      have e' : b = s1.heap.objs.size + 1 ∨ b = s1.heap.objs.size := by simpa using hb
      have hle : s1.heap.objs.size ≤ b := by
        rcases e' with z | z
        · rw [z]; exact Nat.le_add_right _ _
        · rw [z]; exact Nat.le_refl _
      exact I1.fpOk hle (I1.hok.fresh hle)
    rcases q1 with ⟨hq, q⟩ | ⟨hq, q⟩
    · obtain ⟨its, rv, p', hz⟩ := I1.list hq
      refine call_enumerate_list p'.isList fun h' he hit hsz hk => wpAny_pyIter_enum he ?_
      have I2 : Inv X pins σ H1 { s1 with heap := h' } := I1.kept (t' := s1.toks) hk
      exact ⟨s1.heap.objs.size + 1, [s1.heap.objs.size + 1, s1.heap.objs.size], _, _, H1, rfl, I2, turn_enum a (s1.heap.objs.size + 1) s1.heap.objs.size, ⟨⟨.none, he⟩, hit, Nat.succ_ne_self _⟩, fresh2, q⟩
    · obtain ⟨its, rv, p', hz⟩ := I1.tuple hq
      have ht : s1.heap.IsTuple a its.toArray := p'
      have hal : a < s1.heap.objs.size := by obtain ⟨_, q, _⟩ := ht; exact Heap.lt_size q
      refine call_enumerate_tuple ht fun h' he hit hsz hk => wpAny_pyIter_enum he ?_
      have I2 : Inv X pins σ H1 { s1 with heap := h' } := I1.kept (t' := s1.toks) hk
      exact ⟨s1.heap.objs.size + 1, [s1.heap.objs.size + 1, s1.heap.objs.size], _, _, H1, rfl, I2, turn_enumT a (s1.heap.objs.size + 1) s1.heap.objs.size, ⟨⟨.none, he⟩, ⟨_, hit, rfl, rfl⟩, Nat.succ_ne_self _, Nat.ne_of_lt hal, Nat.ne_of_gt (Nat.lt_succ_of_lt hal)⟩, fresh2, q⟩
end L2

namespace L2
open PySem PySem.Spec PyProof.Rows
def iSeqA (K : PySem.W.Frag) (tl : TE) : TI := fun σ H R => tl σ H fun x H1 => ∃ a, x = .ref a ∧ (((∃ xs, SqL K H1 a xs) ∧ R (Itl K a) H1) ∨ ((∃ xs, SqT K H1 a xs) ∧ R (Itt K a) H1))
theorem pi_seqA {X : Cx} {tg l : PySem.Expr} {tl : TE} (hl : PE X l tl) : PI X tg l (iSeqA X.K tl) := by
  refine ⟨fun pins s σ H R I h => ?_⟩
  refine thn (hl.run pins s σ H _ I h) fun v s1 ⟨x, H1, I1, r1, q1⟩ => ?_
  obtain ⟨a, e, q1⟩ := q1
  subst e
  cases r1
  have fr : ∀ b, b ∈ [s1.heap.objs.size] → FpOk X pins H1 b := fun b hb => by
    have e : b = s1.heap.objs.size := by simpa using hb
    subst e
    exact I1.fpOk (Nat.le_refl _) (I1.hok.fresh (Nat.le_refl _))
  rcases q1 with ⟨⟨xs, hq⟩, q⟩ | ⟨⟨xs, hq⟩, q⟩
  · obtain ⟨its, rv, p, hz⟩ := I1.list hq
    refine wpAny_pyIter_list p.isList ?_
    exact ⟨s1.heap.objs.size, [s1.heap.objs.size], _, _, H1, rfl, I1.kept (t' := s1.toks) fun b o e => Heap.get?_push_of_some _ e, turn_list a _, ⟨_, Heap.get?_push_size _ rfl, rfl, rfl⟩, fr, q⟩
  · obtain ⟨its, rv, p, hz⟩ := I1.tuple hq
    refine wpAny_pyIter_tuple (show s1.heap.IsTuple a its.toArray from p) ?_
    exact ⟨s1.heap.objs.size, [s1.heap.objs.size], _, _, H1, rfl, I1.kept (t' := s1.toks) fun b o e => Heap.get?_push_of_some _ e, turn_tuple a _, ⟨_, Heap.get?_push_size _ rfl, rfl, rfl⟩, fr, q⟩
end L2
namespace Nf
open PySem PySem.Spec PyProof.Rows L2
section
variable {z : Cz} {W : Wx} {X : Cx} {L : Lk} {H : Hp} {t : Tin} {R : Rr}

/-! ### what is walked -/
abbrev Pw : Type := Lk → Hp → Tin → Prop
def Walks (z : Cz) (P : Pw) (J : L2.It) (xs : List Val) : Prop := ∀ (i : Nat) (L : Lk) (H : Hp) (t : Tin), Ok z L H t → P L H t →
  (∀ v, xs[i]? = some v → J.go i H ∧ ∀ x H', J.yld i H x H' → ∃ L', Go z L H t L' H' t ∧ Rv z L' H' v x) ∧ (xs.length ≤ i → J.stop i H)
theorem Walks.weak {P P' : Pw} {J : L2.It} {xs : List Val} (h : Walks z P J xs) (i : ∀ L H t, P' L H t → P L H t) : Walks z P' J xs := fun k L H t ok p => h k L H t ok (i L H t p)
/-- a for walks it: what is locked stays -/
def rdI (z : Cz) (W : Wx) (it : Nf.It) : TI := fun σ H Q => ∃ L0 H0 t0 L env t, RelS z L0 H0 t0 L env t σ H ∧ match it env t with
  | .ok xs t' => ∀ J H' L', Go z L H t L' H' t' → Walks z (fun L2 H2 _ => Keep L' H' L2 H2) J xs → Q J H'
  | .exc k t' => ∀ H' L', Go z L H t L' H' t' → W k H'
  | .bad => False
/-- a comprehension walks it: all stays -/
def rdIG (z : Cz) (W : Wx) (it : Nf.It) : TI := fun σ H Q => ∃ L0 H0 t0 L env t, RelS z L0 H0 t0 L env t σ H ∧ match it env t with
  | .ok xs t' => ∀ J H' L', Go z L H t L' H' t' → Walks z (fun L2 H2 t2 => Go z L' H' t' L2 H2 t2) J xs → Q J H'
  | .exc k t' => ∀ H' L', Go z L H t L' H' t' → W k H'
  | .bad => False
theorem xiG {tg e : Expr} {it : Nf.It} (h : PI X tg e (rdI z W it)) : PI X tg e (rdIG z W it) := h.imp fun σ H Q h => by
  obtain ⟨L0, H0, t0, L, env, t, r, h⟩ := h
  refine ⟨L0, H0, t0, L, env, t, r, ?_⟩
  cases e : it env t with
  | bad => rw [e] at h; exact h
  | exc k t' => rw [e] at h; exact h
  | ok xs t' =>
    rw [e] at h
    exact fun J H' L' g w => h J H' L' g (w.weak fun _ _ _ g => g.keep)
theorem walks_list {K : PySem.W.Frag} {P : Pw} {a : Addr} {vs : List Val} {ys : List V} {L1 : Lk} {H1 : Hp} (r : Rvs z L1 H1 vs ys) (hP : ∀ L H t, Ok z L H t → P L H t → H a = some (.lst ys) ∧ Keep L1 H1 L H) : Walks z P (Itl K a) vs := fun i L H t ok p => by
  obtain ⟨ha, k⟩ := hP L H t ok p
  refine ⟨fun v hv => ?_, fun hi => ⟨ys, .inl (.inl ha), by rw [r.len]; exact hi⟩⟩
  obtain ⟨y, hy, ry⟩ := r.get hv
  refine ⟨⟨ys, y, .inl (.inl ha), hy⟩, fun x H' hx => ?_⟩
  obtain ⟨rfl, hx⟩ := hx
  have := hx ys (.inl (.inl ha))
  rw [hy] at this
  cases this
  exact ⟨L, .refl ok, Rv.keep k v ry⟩
theorem walks_tup {P : Pw} {a : Addr} {vs : List Val} {ys : List V} {L1 : Lk} {H1 : Hp} (r : Rvs z L1 H1 vs ys) (hP : ∀ L H t, Ok z L H t → P L H t → SqT z.K H a ys ∧ Keep L1 H1 L H) : Walks z P (Itt z.K a) vs := fun i L H t ok p => by
  obtain ⟨ha, k⟩ := hP L H t ok p
  refine ⟨fun v hv => ?_, fun hi => ⟨ys, ha, by rw [r.len]; exact hi⟩⟩
  obtain ⟨y, hy, ry⟩ := r.get hv
  refine ⟨⟨ys, y, ha, hy⟩, fun x H' hx => ?_⟩
  obtain ⟨rfl, hx⟩ := hx
  have := hx ys ha
  rw [hy] at this
  cases this
  exact ⟨L, .refl ok, Rv.keep k v ry⟩
theorem walks_range {P : Pw} {lo : Int} {hi : Int} : Walks z P (Itr lo (hi - lo).toNat) (rangeL lo hi) := fun i L H t ok p => by
  refine ⟨fun v hv => ?_, fun h => by show (hi - lo).toNat ≤ i; rw [rangeL, List.length_map, List.length_range] at h; exact h⟩
  simp only [rangeL, List.getElem?_map, Option.map_eq_some_iff] at hv
  obtain ⟨k, hk, rfl⟩ := hv
  rw [List.getElem?_eq_some_iff] at hk
  obtain ⟨hlt, hk⟩ := hk
  rw [List.getElem_range] at hk
  subst hk
  rw [List.length_range] at hlt
  refine ⟨hlt, fun x H' hx => ?_⟩
  obtain ⟨rfl, rfl⟩ := hx
  exact ⟨L, .refl ok, by simp [Rv]⟩
/-- a pair made on the way -/
theorem pair_ok {L : Lk} {H : Hp} {t : Tin} {v w : Val} {x y : V} {T : Addr} (ok : Ok z L H t) (rv : Rv z L H v x) (rw' : Rv z L H w y) (hT : H T = none) : ∃ L', Go z L H t L' (upd H T (.tup [x, y])) t ∧ Rv z L' (upd H T (.tup [x, y])) (.tup [v, w]) (.ref T) := by
  have g := Go.upd (o := .tup [x, y]) ok hT
  refine ⟨L, g, ?_⟩
  simp only [Rv]
  exact ⟨T, [x, y], rfl, .inl (.inl upd_same), Rvs.cons (Rv.keep g.keep v rv) (Rvs.cons (Rv.keep g.keep w rw') Rvs.nil)⟩
theorem enumL_get {xs : List Val} {i : Nat} {v : Val} (h : (enumL xs)[i]? = some v) : ∃ w, xs[i]? = some w ∧ v = .tup [.int i, w] := by
  simp only [enumL, List.getElem?_map, Option.map_eq_some_iff, List.getElem?_zipIdx] at h
  obtain ⟨p, ⟨w, hw, rfl⟩, rfl⟩ := h
  exact ⟨w, hw, by simp⟩
theorem enumL_len (xs : List Val) : (enumL xs).length = xs.length := by simp [enumL]
theorem walks_enumL {K : PySem.W.Frag} {P : Pw} {a : Addr} {vs : List Val} {ys : List V} {L1 : Lk} {H1 : Hp} (r : Rvs z L1 H1 vs ys) (hP : ∀ L H t, Ok z L H t → P L H t → H a = some (.lst ys) ∧ Keep L1 H1 L H) : Walks z P (Ite K a) (enumL vs) := fun i L H t ok p => by
  obtain ⟨ha, k⟩ := hP L H t ok p
  refine ⟨fun v hv => ?_, fun hi => ⟨ys, .inl (.inl ha), by rw [r.len, ← enumL_len]; exact hi⟩⟩
  obtain ⟨w, hw, rfl⟩ := enumL_get hv
  obtain ⟨y, hy, ry⟩ := r.get hw
  refine ⟨⟨ys, y, .inl (.inl ha), hy⟩, fun x H' hx => ?_⟩
  obtain ⟨T, x1, rfl, hT, rfl, hx⟩ := hx
  have := hx ys (.inl (.inl ha))
  rw [hy] at this
  cases this
  exact pair_ok ok (by simp [Rv]) (Rv.keep k w ry) hT
theorem walks_enumT {P : Pw} {a : Addr} {vs : List Val} {ys : List V} {L1 : Lk} {H1 : Hp} (r : Rvs z L1 H1 vs ys) (hP : ∀ L H t, Ok z L H t → P L H t → SqT z.K H a ys ∧ Keep L1 H1 L H) : Walks z P (IteT z.K a) (enumL vs) := fun i L H t ok p => by
  obtain ⟨ha, k⟩ := hP L H t ok p
  refine ⟨fun v hv => ?_, fun hi => ⟨ys, ha, by rw [r.len, ← enumL_len]; exact hi⟩⟩
  obtain ⟨w, hw, rfl⟩ := enumL_get hv
  obtain ⟨y, hy, ry⟩ := r.get hw
  refine ⟨⟨ys, y, ha, hy⟩, fun x H' hx => ?_⟩
  obtain ⟨T, x1, rfl, hT, rfl, hx⟩ := hx
  have := hx ys ha
  rw [hy] at this
  cases this
  exact pair_ok ok (by simp [Rv]) (Rv.keep k w ry) hT
theorem zipL_get {xs ys : List Val} {i : Nat} {v : Val} (h : (zipL xs ys)[i]? = some v) : ∃ a b, xs[i]? = some a ∧ ys[i]? = some b ∧ v = .tup [a, b] := by
  simp only [zipL, List.getElem?_zipWith] at h
  cases h1 : xs[i]? <;> cases h2 : ys[i]? <;> rw [h1, h2] at h <;> simp at h
  exact ⟨_, _, rfl, rfl, h.symm⟩
theorem zipL_len (xs ys : List Val) : (zipL xs ys).length = min xs.length ys.length := by simp [zipL]
theorem walks_zipL {K : PySem.W.Frag} {P : Pw} {a b : Addr} {vs ws : List Val} {ys us : List V} {L1 : Lk} {H1 : Hp} (r : Rvs z L1 H1 vs ys) (r2 : Rvs z L1 H1 ws us) (hP : ∀ L H t, Ok z L H t → P L H t → H a = some (.lst ys) ∧ H b = some (.lst us) ∧ Keep L1 H1 L H) : Walks z P (Itz K a b) (zipL vs ws) := fun i L H t ok p => by
  obtain ⟨ha, hb, k⟩ := hP L H t ok p
  refine ⟨fun v hv => ?_, fun hi => ⟨ys, us, .inl (.inl ha), .inl (.inl hb), by rw [r.len, r2.len]; rw [zipL_len] at hi; omega⟩⟩
  obtain ⟨v1, v2, h1, h2, rfl⟩ := zipL_get hv
  obtain ⟨y, hy, ry⟩ := r.get h1
  obtain ⟨u, hu, ru⟩ := r2.get h2
  refine ⟨⟨ys, us, y, u, .inl (.inl ha), .inl (.inl hb), hy, hu⟩, fun x H' hx => ?_⟩
  obtain ⟨T, x1, x2, rfl, hT, rfl, hx1, hx2⟩ := hx
  have e1 := hx1 ys (.inl (.inl ha))
  have e2 := hx2 us (.inl (.inl hb))
  rw [hy] at e1; rw [hu] at e2
  cases e1; cases e2
  exact pair_ok ok (Rv.keep k v1 ry) (Rv.keep k v2 ru) hT
theorem walks_zipT {P : Pw} {a b : Addr} {vs ws : List Val} {ys us : List V} {L1 : Lk} {H1 : Hp} (r : Rvs z L1 H1 vs ys) (r2 : Rvs z L1 H1 ws us) (hP : ∀ L H t, Ok z L H t → P L H t → SqT z.K H a ys ∧ SqT z.K H b us ∧ Keep L1 H1 L H) : Walks z P (RZ.ItzT z.K a b) (zipL vs ws) := fun i L H t ok p => by
  obtain ⟨ha, hb, k⟩ := hP L H t ok p
  refine ⟨fun v hv => ?_, fun hi => ⟨ys, us, ha, hb, by rw [r.len, r2.len]; rw [zipL_len] at hi; omega⟩⟩
  obtain ⟨v1, v2, h1, h2, rfl⟩ := zipL_get hv
  obtain ⟨y, hy, ry⟩ := r.get h1
  obtain ⟨u, hu, ru⟩ := r2.get h2
  refine ⟨⟨ys, us, y, u, ha, hb, hy, hu⟩, fun x H' hx => ?_⟩
  obtain ⟨T, x1, x2, rfl, hT, rfl, hx1, hx2⟩ := hx
  have e1 := hx1 ys ha
  have e2 := hx2 us hb
  rw [hy] at e1; rw [hu] at e2
  cases e1; cases e2
  exact pair_ok ok (Rv.keep k v1 ry) (Rv.keep k v2 ru) hT
theorem rev_get {α : Type} {xs : List α} {i : Nat} {v : α} (h : xs.reverse[i]? = some v) : i < xs.length ∧ xs[xs.length - 1 - i]? = some v := by
  have hi : i < xs.length := by
    have := (List.getElem?_eq_some_iff.mp h).1
    simpa using this
  rw [List.getElem?_reverse hi] at h
  exact ⟨hi, h⟩
theorem walks_revL {K : PySem.W.Frag} {P : Pw} {a : Addr} {vs : List Val} {ys : List V} {L1 : Lk} {H1 : Hp} (r : Rvs z L1 H1 vs ys) (hP : ∀ L H t, Ok z L H t → P L H t → H a = some (.lst ys) ∧ Keep L1 H1 L H) : Walks z P (Itv K a ys.length) vs.reverse := fun i L H t ok p => by
  obtain ⟨ha, k⟩ := hP L H t ok p
  refine ⟨fun v hv => ?_, fun hi => by rw [List.length_reverse] at hi; show ys.length ≤ i; rw [r.len]; exact hi⟩
  obtain ⟨hi, hv⟩ := rev_get hv
  obtain ⟨y, hy, ry⟩ := r.get hv
  rw [← r.len] at hy hi
  refine ⟨⟨hi, ys, y, .inl (.inl ha), hy⟩, fun x H' hx => ?_⟩
  obtain ⟨rfl, hx⟩ := hx
  have := hx ys (.inl (.inl ha))
  rw [hy] at this
  cases this
  exact ⟨L, .refl ok, Rv.keep k v ry⟩
theorem walks_revT {P : Pw} {a : Addr} {vs : List Val} {ys : List V} {L1 : Lk} {H1 : Hp} (r : Rvs z L1 H1 vs ys) (hP : ∀ L H t, Ok z L H t → P L H t → SqT z.K H a ys ∧ Keep L1 H1 L H) : Walks z P (RT.ItvT z.K a ys.length) vs.reverse := fun i L H t ok p => by
  obtain ⟨ha, k⟩ := hP L H t ok p
  refine ⟨fun v hv => ?_, fun hi => by rw [List.length_reverse] at hi; show ys.length ≤ i; rw [r.len]; exact hi⟩
  obtain ⟨hi, hv⟩ := rev_get hv
  obtain ⟨y, hy, ry⟩ := r.get hv
  rw [← r.len] at hy hi
  refine ⟨⟨hi, ys, y, ha, hy⟩, fun x H' hx => ?_⟩
  obtain ⟨rfl, hx⟩ := hx
  have := hx ys ha
  rw [hy] at this
  cases this
  exact ⟨L, .refl ok, Rv.keep k v ry⟩

/-! ### the rules -/
variable {tg e e2 : Expr} {f : E} {a : A} {p pos : Pos}
theorem xi_seq [F : Fit z X] (he : PE X e (rd z W (RE z) f)) : PI X tg e (rdI z W (iSeq f)) := by
  refine (pi_seqA he).imp fun σ H Q h => ?_
  obtain ⟨L0, H0, t0, L, env, t, r, h⟩ := h
  refine ⟨L0, H0, t0, L, env, t, r, ?_⟩
  simp only [iSeq] at h
  cases e : f env t with
  | bad => rw [e] at h; exact h
  | exc k t' => rw [e] at h; exact h
  | ok v t1 =>
    rw [e] at h
    simp only [Res.bind_ok] at h
    intro x H1 L1 g1 rx
    rw [F.K]
    cases v <;> simp only [items] at h <;> try exact h.elim
    · simp only [RE, Rv] at rx
      obtain ⟨a, ys, rfl, h1, r1⟩ := rx
      exact ⟨a, rfl, .inr ⟨⟨ys, h1⟩, h _ H1 L1 g1 (walks_tup r1 fun _ _ _ _ k => ⟨k.sqT h1, k⟩)⟩⟩
    · simp only [RE, Rv] at rx
      obtain ⟨a, ys, rfl, l, h1, r1⟩ := rx
      exact ⟨a, rfl, .inl ⟨⟨ys, .inl (.inl h1)⟩, h _ H1 L1 g1 (walks_list r1 fun _ _ _ _ k => ⟨k.2 a _ h1 (.inl l), k⟩)⟩⟩
theorem xi_seqO [F : Fit z X] (he : PE X e (rd z W (RO z) f)) : PI X tg e (rdIG z W (iSeq f)) := by
  refine (pi_seqA he).imp fun σ H Q h => ?_
  obtain ⟨L0, H0, t0, L, env, t, r, h⟩ := h
  refine ⟨L0, H0, t0, L, env, t, r, ?_⟩
  simp only [iSeq] at h
  cases e : f env t with
  | bad => rw [e] at h; exact h
  | exc k t' => rw [e] at h; exact h
  | ok v t1 =>
    rw [e] at h
    simp only [Res.bind_ok] at h
    intro x H1 L1 g1 rx
    rw [F.K]
    cases v <;> simp only [items] at h <;> try exact h.elim
    · obtain ⟨a, ys, rfl, h1, r1⟩ := rx.tup
      exact ⟨a, rfl, .inr ⟨⟨ys, h1⟩, h _ H1 L1 g1 (walks_tup r1 fun _ _ _ _ g => ⟨g.keep.sqT h1, g.keep⟩)⟩⟩
    · rcases rx with rx | ⟨a, rfl, n, ys, h1, r1⟩
      · simp only [Rv] at rx
        obtain ⟨a, ys, rfl, l, h1, r1⟩ := rx
        exact ⟨a, rfl, .inl ⟨⟨ys, .inl (.inl h1)⟩, h _ H1 L1 g1 (walks_list r1 fun _ _ _ _ g => ⟨g.keep.2 a _ h1 (.inl l), g.keep⟩)⟩⟩
      · exact ⟨a, rfl, .inl ⟨⟨ys, .inl (.inl h1)⟩, h _ H1 L1 g1 (walks_list r1 fun _ _ _ _ g => ⟨g.stay a _ h1 n, g.keep⟩)⟩⟩
theorem lim62 {j : Int} (h1 : j ≤ lim) (h2 : -lim ≤ j) : -(2 ^ 62) ≤ j ∧ j < 2 ^ 62 := by
  simp only [lim] at h1 h2
  omega
theorem xi_range1 (hg : Gl X "range") (hm : X.mg "range" = none) (ha : PA X [e] (rdA z W (RO z) a)) (hs : starEach [e] X.env = [(false, eval e X.env)] := by rfl) : PI X tg (.Call (.Name "range" p) [e] [] pos) (rdI z W (iRange1 a)) := by
  refine (pi_range1 hg hm ha hs).imp fun σ H Q h => ?_
  obtain ⟨L0, H0, t0, L, env, t, r, h⟩ := h
  refine ⟨L0, H0, t0, L, env, t, r, ?_⟩
  simp only [iRange1] at h
  cases e : a env t with
  | bad => rw [e] at h; exact h
  | exc k t' => rw [e] at h; exact h
  | ok vs t1 =>
    rw [e] at h
    simp only [Res.bind_ok] at h
    intro xs H1 L1 g1 rx
    match vs, h, rx with
    | [.int j], h, rx =>
      simp only at h
      by_cases hb : j ≤ lim ∧ -lim ≤ j
      · rw [if_pos hb] at h
        obtain ⟨y, rfl, hy⟩ := rx.one
        cases hy.int
        have q := lim62 hb.1 hb.2
        refine ⟨j, rfl, q.1, q.2, h _ H1 L1 g1 ?_⟩
        have e1 : j.toNat = (j - 0).toNat := by simp
        rw [e1]
        exact walks_range
      · rw [if_neg hb] at h; exact h.elim
theorem xi_range2 (hg : Gl X "range") (hm : X.mg "range" = none) (ha : PA X [e, e2] (rdA z W (RO z) a)) (hs : starEach [e, e2] X.env = [(false, eval e X.env), (false, eval e2 X.env)] := by rfl) (hs2 : starEach [e2] X.env = [(false, eval e2 X.env)] := by rfl) : PI X tg (.Call (.Name "range" p) [e, e2] [] pos) (rdI z W (iRange2 a)) := by
  refine (pi_range2 hg hm ha hs hs2).imp fun σ H Q h => ?_
  obtain ⟨L0, H0, t0, L, env, t, r, h⟩ := h
  refine ⟨L0, H0, t0, L, env, t, r, ?_⟩
  simp only [iRange2] at h
  cases e : a env t with
  | bad => rw [e] at h; exact h
  | exc k t' => rw [e] at h; exact h
  | ok vs t1 =>
    rw [e] at h
    simp only [Res.bind_ok] at h
    intro xs H1 L1 g1 rx
    match vs, h, rx with
    | [.int i, .int j], h, rx =>
      simp only at h
      by_cases hb : -lim ≤ i ∧ i ≤ lim ∧ -lim ≤ j ∧ j ≤ lim
      · rw [if_pos hb] at h
        obtain ⟨y, w, rfl, hy, hw⟩ := rx.two
        cases hy.int; cases hw.int
        have q1 := lim62 hb.2.1 hb.1
        have q2 := lim62 hb.2.2.2 hb.2.2.1
        exact ⟨i, j, rfl, ⟨q1.1, q1.2, q2.1, q2.2⟩, h _ H1 L1 g1 walks_range⟩
      · rw [if_neg hb] at h; exact h.elim
variable {elts : List Expr} {kk : Nat} {tpos : Pos}
theorem xi_enum [F : Fit z X] (hg : Gl X "enumerate") (hm : X.mg "enumerate" = none) (ha : PA X [e] (rdA z W (RE z) a)) (hs : starEach [e] X.env = [(false, eval e X.env)] := by rfl) : PI X (.Tuple elts kk tpos) (.Call (.Name "enumerate" p) [e] [] pos) (rdI z W (iEnum a)) := by
  refine (pi_enumA hg hm ha hs).imp fun σ H Q h => ?_
  obtain ⟨L0, H0, t0, L, env, t, r, h⟩ := h
  refine ⟨L0, H0, t0, L, env, t, r, ?_⟩
  simp only [iEnum] at h
  cases e : a env t with
  | bad => rw [e] at h; exact h
  | exc k t' => rw [e] at h; exact h
  | ok vs t1 =>
    rw [e] at h
    simp only [Res.bind_ok] at h
    intro xs H1 L1 g1 rx
    rw [F.K]
    match vs, h, rx with
    | [.tup ws], h, rx =>
      obtain ⟨y, rfl, hy⟩ := rx.one
      simp only [RE, Rv] at hy
      obtain ⟨a, ys, rfl, h1, r1⟩ := hy
      exact ⟨a, ys, rfl, .inr ⟨h1, h _ H1 L1 g1 (walks_enumT r1 fun _ _ _ _ k => ⟨k.sqT h1, k⟩)⟩⟩
    | [.lst ws], h, rx =>
      obtain ⟨y, rfl, hy⟩ := rx.one
      simp only [RE, Rv] at hy
      obtain ⟨a, ys, rfl, l, h1, r1⟩ := hy
      exact ⟨a, ys, rfl, .inl ⟨.inl (.inl h1), h _ H1 L1 g1 (walks_enumL r1 fun _ _ _ _ k => ⟨k.2 a _ h1 (.inl l), k⟩)⟩⟩
theorem xi_zip [F : Fit z X] (hg : Gl X "zip") (hm : X.mg "zip" = none) (ha : PA X [e, e2] (rdA z W (RE z) a))
    (hs : starEach [e, e2] X.env = (false, eval e X.env) :: starEach [e2] X.env := by rfl) (hpl : (backTo pos (starEach [e2] X.env)).any (·.1) = false := by rfl) : PI X (.Tuple elts kk tpos) (.Call (.Name "zip" p) [e, e2] [] pos) (rdI z W (iZip a)) := by
  refine (RZ.pi_zipA hg hm ha hs hpl).imp fun σ H Q h => ?_
  obtain ⟨L0, H0, t0, L, env, t, r, h⟩ := h
  refine ⟨L0, H0, t0, L, env, t, r, ?_⟩
  simp only [iZip] at h
  cases e : a env t with
  | bad => rw [e] at h; exact h
  | exc k t' => rw [e] at h; exact h
  | ok vs t1 =>
    rw [e] at h
    simp only [Res.bind_ok] at h
    intro xs H1 L1 g1 rx
    rw [F.K]
    match vs, h, rx with
    | [.tup ws, .tup us], h, rx =>
      obtain ⟨y, w, rfl, hy, hw⟩ := rx.two
      simp only [RE, Rv] at hy hw
      obtain ⟨a, ys, rfl, h1, r1⟩ := hy
      obtain ⟨b, zs, rfl, h2, r2⟩ := hw
      exact ⟨a, b, ys, zs, rfl, .inr ⟨h1, h2, h _ H1 L1 g1 (walks_zipT r1 r2 fun _ _ _ _ k => ⟨k.sqT h1, k.sqT h2, k⟩)⟩⟩
    | [.lst ws, .lst us], h, rx =>
      obtain ⟨y, w, rfl, hy, hw⟩ := rx.two
      simp only [RE, Rv] at hy hw
      obtain ⟨a, ys, rfl, l1, h1, r1⟩ := hy
      obtain ⟨b, zs, rfl, l2, h2, r2⟩ := hw
      exact ⟨a, b, ys, zs, rfl, .inl ⟨.inl (.inl h1), .inl (.inl h2), h _ H1 L1 g1 (walks_zipL r1 r2 fun _ _ _ _ k => ⟨k.2 a _ h1 (.inl l1), k.2 b _ h2 (.inl l2), k⟩)⟩⟩
theorem xi_rev [F : Fit z X] (hg : Gl X "reversed") (hm : X.mg "reversed" = none) (he : PE X e (rd z W (RE z) f)) (hs : starEach [e] X.env = (false, eval e X.env) :: starEach [] X.env := by rfl) : PI X tg (.Call (.Name "reversed" p) [e] [] pos) (rdI z W (iRev f)) := by
  refine (RT.pi_revA hg hm he hs).imp fun σ H Q h => ?_
  obtain ⟨L0, H0, t0, L, env, t, r, h⟩ := h
  refine ⟨L0, H0, t0, L, env, t, r, ?_⟩
  simp only [iRev] at h
  cases e : f env t with
  | bad => rw [e] at h; exact h
  | exc k t' => rw [e] at h; exact h
  | ok v t1 =>
    rw [e] at h
    simp only [Res.bind_ok] at h
    intro x H1 L1 g1 rx
    rw [F.K]
    cases v <;> simp only [items] at h <;> try exact h.elim
    · simp only [RE, Rv] at rx
      obtain ⟨a, ys, rfl, h1, r1⟩ := rx
      exact ⟨a, ys, rfl, .inr ⟨h1, h _ H1 L1 g1 (walks_revT r1 fun _ _ _ _ k => ⟨k.sqT h1, k⟩)⟩⟩
    · simp only [RE, Rv] at rx
      obtain ⟨a, ys, rfl, l, h1, r1⟩ := rx
      exact ⟨a, ys, rfl, .inl ⟨.inl (.inl h1), h _ H1 L1 g1 (walks_revL r1 fun _ _ _ _ k => ⟨k.2 a _ h1 (.inl l), k⟩)⟩⟩
end
end Nf

namespace Nf
open PySem PySem.Spec PyProof.Rows L2
section
variable {z : Cz} {W : Wx} {X : Cx} {L : Lk} {H : Hp} {t : Tin} {R : Rr}

/-! ### targets -/
/-- a value goes to a target that stores at the slots is -/
def rdG (z : Cz) (g : Nf.G) (is : List Nat) : TG := fun x σ H Q => ∃ L0 H0 t0 L env t v, RelS z L0 H0 t0 L env t σ H ∧ Rv z L H v x ∧ match g v env with
  | some env' => ∀ σ', RelS z L0 H0 t0 L env' t σ' H → (∀ vs, (∀ i ∈ is, i ∈ vs) → L2.wipe σ' vs = L2.wipe σ vs) → Q σ' H
  | none => False
def rdGs (z : Cz) (gs : List Nf.G) (is : List Nat) : TGs := fun xs σ H Q => ∃ L0 H0 t0 L env t vs, RelS z L0 H0 t0 L env t σ H ∧ Rvs z L H vs xs ∧ match gsL gs vs env with
  | some env' => ∀ σ', RelS z L0 H0 t0 L env' t σ' H → (∀ vs, (∀ i ∈ is, i ∈ vs) → L2.wipe σ' vs = L2.wipe σ vs) → Q σ' H
  | none => False
theorem getElem?_set_self' {α : Type} {l : List α} {i : Nat} {x : α} (h : i < l.length) : (l.set i x)[i]? = some x := by simp [h]
theorem getElem?_set_ne' {α : Type} {l : List α} {i j : Nat} {x : α} (h : i ≠ j) : (l.set i x)[j]? = l[j]? := by simp [h]
/-- a slot takes a value -/
theorem RelS.put {L0 : Lk} {H0 : Hp} {t0 : Tin} {env : Env} {σ : List (Option V)} {v : Val} {x : V} {i : Nat} (r : RelS z L0 H0 t0 L env t σ H) (hv : Rv z L H v x) (hi : i < env.length) : RelS z L0 H0 t0 L (env.set i (some (false, v))) t (σ.set i (some x)) H where
  base := r.base
  ok := r.ok
  len := by rw [List.length_set, List.length_set]; exact r.len
  val := fun j w e => by
    by_cases h : i = j
    · subst h
      rw [getElem?_set_self' hi] at e
      cases e
      exact ⟨x, getElem?_set_self' (by rw [← r.len]; exact hi), hv⟩
    · rw [getElem?_set_ne' h] at e ⊢
      exact r.val j w e
  own := by
    obtain ⟨oa, h1, h2⟩ := r.own
    refine ⟨oa, fun j w e => ?_, fun j k w u e1 e2 n => ?_⟩
    · by_cases h : i = j
      · subst h; rw [getElem?_set_self' hi] at e; cases e
      · rw [getElem?_set_ne' h] at e ⊢; exact h1 j w e
    · have n1 : i ≠ j := fun h => by subst h; rw [getElem?_set_self' hi] at e1; cases e1
      have n2 : i ≠ k := fun h => by subst h; rw [getElem?_set_self' hi] at e2; cases e2
      rw [getElem?_set_ne' n1] at e1
      rw [getElem?_set_ne' n2] at e2
      exact h2 j k w u e1 e2 n
/-- a slot is forgotten -/
theorem RelS.forget {L0 : Lk} {H0 : Hp} {t0 : Tin} {env : Env} {σ : List (Option V)} {i : Nat} (r : RelS z L0 H0 t0 L env t σ H) : RelS z L0 H0 t0 L (env.set i none) t (σ.set i none) H where
  base := r.base
  ok := r.ok
  len := by rw [List.length_set, List.length_set]; exact r.len
  val := fun j w e => by
    by_cases h : i = j
    · subst h
      rw [List.getElem?_set] at e
      split at e <;> simp_all
    · rw [getElem?_set_ne' h] at e ⊢
      exact r.val j w e
  own := by
    obtain ⟨oa, h1, h2⟩ := r.own
    have ne : ∀ j w, (env.set i none)[j]? = some (some (true, w)) → i ≠ j := fun j w e h => by
      subst h; rw [List.getElem?_set] at e; split at e <;> simp_all
    refine ⟨oa, fun j w e => ?_, fun j k w u e1 e2 n => ?_⟩
    · have h := ne j w e
      rw [getElem?_set_ne' h] at e ⊢; exact h1 j w e
    · have n1 := ne j w e1
      have n2 := ne k u e2
      rw [getElem?_set_ne' n1] at e1
      rw [getElem?_set_ne' n2] at e2
      exact h2 j k w u e1 e2 n
theorem RelS.wiped {L0 : Lk} {H0 : Hp} {t0 : Tin} {env : Env} {σ : List (Option V)} (r : RelS z L0 H0 t0 L env t σ H) : ∀ vs : List Nat, RelS z L0 H0 t0 L (Nf.wipe env vs) t (L2.wipe σ vs) H
  | [] => r
  | v :: vs => (r.wiped vs).forget
theorem wipe_set {σ : L2.St} {i : Nat} {o : Option V} : ∀ {vs : List Nat}, i ∈ vs → L2.wipe (σ.set i o) vs = L2.wipe σ vs
  | v :: vs, h => by
    unfold L2.wipe
    by_cases hv : i = v
    · subst hv
      by_cases hm : i ∈ vs
      · rw [wipe_set hm]
      · have : ∀ (ws : List Nat), i ∉ ws → L2.wipe (σ.set i o) ws = (L2.wipe σ ws).set i o := by
          intro ws
          induction ws with
          | nil => intro _; rfl
          | cons w ws ih =>
            intro hn
            unfold L2.wipe
            rw [ih (fun h => hn (List.mem_cons_of_mem _ h)), List.set_comm]
            exact fun e => hn (by rw [e]; exact List.mem_cons_self)
        rw [this vs hm, List.set_set]
    · rcases List.mem_cons.mp h with h | h
      · exact absurd h hv
      · rw [wipe_set h]
variable {pos : Pos}
theorem xg_name (i : Nat) {x : PySem.Str} (hN : X.N.Nodup) (hi : X.N[i]? = some x) (hx : Loc X.env.scope x) (hf : X.fn x = true ∨ X.env.scope.names.lookup x = some .local := by first | exact .inl rfl | exact .inr rfl | assumption) : PG X (.Name x pos) (rdG z (Nf.gName i) [i]) := by
  refine (pg_name hN hi hx hf).imp fun x σ H Q h => ?_
  obtain ⟨L0, H0, t0, L, env, t, v, r, hv, h⟩ := h
  simp only [Nf.gName] at h
  by_cases hl : i < env.length
  · rw [if_pos hl] at h
    exact h _ (r.put hv hl) fun vs hvs => wipe_set (hvs i (by simp))
  · rw [if_neg hl] at h; exact h.elim
theorem xgs_nil : PGs X [] (rdGs z [] []) := ⟨fun pins s σ H vs us Q I r h => by
  refine (pgs_nil (X := X)).run pins s σ H vs us Q I r ?_
  obtain ⟨L0, H0, t0, L, env, t, ws, rr, hv, h⟩ := h
  cases ws with
  | nil =>
    simp only [Rvs] at hv
    exact ⟨hv, h σ rr fun _ _ => rfl⟩
  | cons w ws => exact h.elim⟩
theorem xgs_cons {e : Expr} {es : List Expr} {g : Nf.G} {gs : List Nf.G} {is js : List Nat} (h1 : PG X e (rdG z g is)) (h2 : PGs X es (rdGs z gs js))
    (hs : (assignEach (e :: es) X.env).map (·.2) = assign e X.env :: (assignEach es X.env).map (·.2) := by rfl) : PGs X (e :: es) (rdGs z (g :: gs) (is ++ js)) := ⟨fun pins s σ H vs us Q I r h => by
  refine (pgs_cons h1 h2 hs).run pins s σ H vs us Q I r ?_
  obtain ⟨L0, H0, t0, L, env, t, ws, rr, hv, h⟩ := h
  cases ws with
  | nil => exact h.elim
  | cons w ws =>
    simp only [Rvs] at hv
    obtain ⟨y, ys, rfl, hy, hys⟩ := hv
    refine ⟨y, ys, rfl, L0, H0, t0, L, env, t, w, rr, hy, ?_⟩
    simp only [gsL] at h
    cases e : g w env with
    | none => rw [e] at h; exact h.elim
    | some env1 =>
      rw [e] at h
      intro σ1 r1 hw1
      refine ⟨L0, H0, t0, L, env1, t, ws, r1, hys, ?_⟩
      simp only [Option.bind_some] at h
      cases e2 : gsL gs ws env1 with
      | none => rw [e2] at h; exact h.elim
      | some env2 =>
        rw [e2] at h
        intro σ2 r2 hw2
        exact h σ2 r2 fun vs hvs => (hw2 vs fun i hi => hvs i (List.mem_append_right _ hi)).trans (hw1 vs fun i hi => hvs i (List.mem_append_left _ hi))⟩
theorem xg_tup [F : Fit z X] {es : List Expr} {k n : Nat} {gs : List Nf.G} {is : List Nat} (h : PGs X es (rdGs z gs is)) (hk : gs.length = n := by rfl)
    (hn : (assignEach es X.env).length = n := by rfl) (hst : (assignEach es X.env).findIdx? (·.1) = none := by rfl) : PG X (.Tuple es k pos) (rdG z (Nf.gTup gs) is) := by
  refine (pg_tup F.calm h hn hst).imp fun x σ H Q h => ?_
  obtain ⟨L0, H0, t0, L, env, t, v, r, hv, h⟩ := h
  cases v <;> simp only [Nf.gTup] at h <;> try exact h.elim
  rename_i ws
  simp only [Rv] at hv
  obtain ⟨a, ys, rfl, h1, r1⟩ := hv
  have hlen : ∀ (gs : List Nf.G) (ws : List Val) (env : Env), gsL gs ws env ≠ none → ws.length = gs.length := by
    intro gs
    induction gs with
    | nil => intro ws env h; cases ws with
      | nil => rfl
      | cons w ws => exact absurd rfl h
    | cons g gs ih =>
      intro ws env h
      cases ws with
      | nil => exact absurd rfl h
      | cons w ws =>
        simp only [gsL] at h
        cases e : g w env with
        | none => rw [e] at h; exact absurd rfl h
        | some env1 =>
          rw [e] at h
          simp only [Option.bind_some] at h
          simp [ih ws env1 h]
  have hl : ws.length = gs.length := hlen gs ws env (fun e => by rw [e] at h; exact h)
  exact ⟨a, ys, rfl, by rw [F.K]; exact h1, by rw [r1.len, hl, hk], L0, H0, t0, L, env, t, ws, r, r1, h⟩

/-! ### comprehensions -/
abbrev W0 : Wx := fun _ _ => False
/-- the list at p, which nobody knows, is changed -/
theorem Go.at {L' : Lk} {H' : Hp} {t' : Tin} (g : Go z L H t L' H' t') {p : Addr} {o : HO} (hp : H p = none) (hl : ¬ L' p) (ht : z.ta ≠ some p) : Go z L H t L' (L2.upd H' p o) t' := by
  refine ⟨g.pre, ⟨fun a l => ?_, fun a e => ⟨(g.ok.2 a e).1, ?_⟩⟩, g.up, g.new, fun a u e n => ?_⟩
  · have n : a ≠ p := fun e => by subst e; exact hl l
    rw [upd_ne n]; exact g.ok.1 a l
  · have n : a ≠ p := fun e' => by subst e'; exact ht e
    rw [upd_ne n]; exact (g.ok.2 a e).2
  · have n' : a ≠ p := fun e' => by subst e'; rw [hp] at e; cases e
    rw [upd_ne n']; exact g.stay a u e n
theorem Keep.at {p : Addr} {o : HO} {xs : List V} (hl : ¬ L p) (hp : H p = some (.lst xs)) : Keep L H L (L2.upd H p o) := by
  refine ⟨fun _ h => h, fun a u e c => ?_⟩
  have n : a ≠ p := fun e' => by
    subst e'
    rw [hp] at e; cases e
    rcases c with c | ⟨_, c⟩ | ⟨_, _, c⟩
    · exact hl c
    · cases c
    · cases c
  rw [upd_ne n]; exact e
variable {it : Nf.It} {g : Nf.G} {c : T} {f : E} {is own : List Nat}
/-- a comprehension's invariant -/
structure LcInv (z : Cz) (L1 : Lk) (H1 : Hp) (t1 : Tin) (xs : List Val) (D : Addr) (env : Env) (g : Nf.G) (c : T) (f : E) (vs : List Val) (t2 : Tin) (i : Nat) (H' : Hp) : Prop where
  ex : ∃ (Li : Lk) (ti : Tin) (done rest : List Val) (acc : List V), Go z L1 H1 t1 Li H' ti ∧ H' D = some (.lst acc) ∧ ¬ Li D ∧ Rvs z Li H' done acc ∧ done.length ≤ i ∧ i ≤ xs.length ∧ compLoop g c f env (xs.drop i) ti = .ok rest t2 ∧ vs = done ++ rest
theorem rd_comp {tg : Nf.G} {σ H Q} (hsub : ∀ i ∈ is, i ∈ own) (h : rd z W (RN z) (eComp it g own c f) σ H Q) :
    tLc (rdIG z W it) (rdG z g is) (rdT z W0 c) (rd z W0 (RE z) f) own σ H Q := by
  obtain ⟨L0, H0, t0, L, env, t, r, h⟩ := h
  refine ⟨L0, H0, t0, L, env, t, r, ?_⟩
  simp only [eComp] at h
  cases e : it env t with
  | bad => rw [e] at h; exact h
  | exc k t' => rw [e] at h; exact h
  | ok xs t1 =>
    rw [e] at h
    simp only [Res.bind_ok] at h
    intro J H1 L1 g1 wk D hD
    by_cases hxs : xs.length ≤ lim
    case neg => rw [if_neg hxs] at h; exact h.elim
    rw [if_pos hxs] at h
    cases e2 : compLoop g c f (Nf.wipe env own) xs t1 with
    | bad => rw [e2] at h; exact h.elim
    | exc k t' => rw [e2] at h; exact h.elim
    | ok vs t2 =>
      rw [e2] at h
      simp only [Res.bindN_ok] at h
      have hta : z.ta ≠ some D := g1.ok.ta_ne hD
      refine ⟨fun i m H' => m = xs.length - i ∧ LcInv z L1 H1 t1 xs D (Nf.wipe env own) g c f vs t2 i H', ⟨xs.length, by simp, ⟨L1, t1, [], vs, [], ?_, upd_same, ?_, Rvs.nil, by simp, by simp, by simpa using e2, by simp⟩⟩, ?_⟩
      · exact (Go.refl g1.ok).at hD (fun l => by obtain ⟨u, eu⟩ := g1.ok.1 D l; rw [hD] at eu; cases eu) hta
      · exact fun l => by obtain ⟨u, eu⟩ := g1.ok.1 D l; rw [hD] at eu; cases eu
      · intro i m Hi ⟨hm, ⟨Li, ti, done, rest, acc, gi, hDi, nDi, rd, hdl, hil, hloop, hvs⟩⟩
        have wki := wk i Li Hi ti gi.ok gi
        by_cases hi : i < xs.length
        · refine .inr ?_
          have hx : xs[i]? = some xs[i] := List.getElem?_eq_getElem hi
          obtain ⟨hgo, hyld⟩ := wki.1 _ hx
          refine ⟨hgo, fun H' => ∃ m', m' < m ∧ m' = xs.length - (i + 1) ∧ LcInv z L1 H1 t1 xs D (Nf.wipe env own) g c f vs t2 (i + 1) H', fun H' ⟨m', h1, h2, h3⟩ => ⟨m', h1, h2, h3⟩, fun x H2 hy => ?_⟩
          obtain ⟨L2', g2, rx⟩ := hyld x H2 hy
          rw [List.drop_eq_getElem_cons hi] at hloop
          simp only [compLoop] at hloop
          have r2 : RelS z L0 H0 t0 L2' (Nf.wipe env own) ti (L2.wipe σ own) H2 := (((r.go g1).go gi).go g2).wiped own
          refine ⟨L0, H0, t0, L2', Nf.wipe env own, ti, xs[i], r2, rx, ?_⟩
          cases e3 : g xs[i] (Nf.wipe env own) with
          | none => rw [e3] at hloop; cases hloop
          | some env1 =>
            rw [e3] at hloop
            simp only at hloop
            intro σ2 rel2 hw
            refine ⟨(hw own hsub).trans ?_, L0, H0, t0, L2', env1, ti, rel2, ?_⟩
            · have : ∀ (σ : L2.St) (ws : List Nat), (∀ i ∈ ws, i ∈ own) → L2.wipe (L2.wipe σ ws) own = L2.wipe σ own := by
                intro σ ws
                induction ws with
                | nil => intro _; rfl
                | cons w ws ih =>
                  intro hs
                  show L2.wipe ((L2.wipe σ ws).set w none) own = _
                  rw [wipe_set (hs w List.mem_cons_self)]
                  exact ih fun i hi => hs i (List.mem_cons_of_mem _ hi)
              exact this σ own fun _ h => h
            cases e4 : c env1 ti with
            | bad => rw [e4] at hloop; cases hloop
            | exc k t' => rw [e4] at hloop; cases hloop
            | ok b t3 =>
              rw [e4] at hloop
              simp only [Res.bindN_ok] at hloop
              intro H3 L3 g3
              have g13 : Go z L1 H1 t1 L3 H3 t3 := gi.trans (g2.trans g3)
              have k23 : Keep Li Hi L3 H3 := (g2.trans g3).keep
              have nD3 : ¬ L3 D := fun l => by
                rcases (g2.trans g3).new D l with l | l
                · exact nDi l
                · rw [hDi] at l; cases l
              have hD3 : H3 D = some (.lst acc) := (g2.trans g3).stay D _ hDi hta
              cases b with
              | false =>
                simp only [Bool.false_eq_true, if_false] at hloop ⊢
                exact ⟨m - 1, by omega, by omega, ⟨L3, t3, done, rest, acc, g13, hD3, nD3, Rvs.keep k23 done rd, by omega, by omega, hloop, hvs⟩⟩
              | true =>
                simp only [if_true] at hloop ⊢
                refine ⟨L0, H0, t0, L3, env1, t3, rel2.go g3, ?_⟩
                cases e5 : f env1 t3 with
                | bad => rw [e5] at hloop; cases hloop
                | exc k t' => rw [e5] at hloop; cases hloop
                | ok v t4 =>
                  rw [e5] at hloop
                  simp only [Res.bindN_ok] at hloop
                  intro y H4 L4 g4 ry
                  have k4 : Keep Li Hi L4 H4 := (g2.trans (g3.trans g4)).keep
                  have nD4 : ¬ L4 D := fun l => by
                    rcases g4.new D l with l | l
                    · exact nD3 l
                    · rw [hD3] at l; cases l
                  have hD4 : H4 D = some (.lst acc) := g4.stay D _ hD3 hta
                  cases e6 : compLoop g c f (Nf.wipe env own) (xs.drop (i + 1)) t4 with
                  | bad => rw [e6] at hloop; cases hloop
                  | exc k t' => rw [e6] at hloop; cases hloop
                  | ok ws t5 =>
                    rw [e6] at hloop
                    simp only [Res.bindN_ok, Res.ok.injEq] at hloop
                    obtain ⟨h1, h2⟩ := hloop
                    subst h1 h2
                    have kk : Keep L4 H4 L4 (upd H4 D (.lst (acc ++ [y]))) := Keep.at nD4 hD4
                    refine ⟨acc, hD4, ?_, m - 1, by omega, by omega, ⟨L4, t4, done ++ [v], ws, acc ++ [y], (g13.trans g4).at hD nD4 hta, upd_same, nD4, ?_, by simp; omega, by omega, e6, by rw [hvs]; simp⟩⟩
                    · rw [rd.len]
                      exact Nat.lt_of_le_of_lt (Nat.le_of_lt (Nat.lt_of_le_of_lt hdl hi)) (Nat.lt_of_le_of_lt hxs (by decide))
                    · exact Rvs.append (Rvs.keep (k4.trans kk) done rd) (Rvs.cons (Rv.keep kk v ry) Rvs.nil)
        · refine .inl ⟨wki.2 (by omega), ?_⟩
          have he : xs.drop i = [] := List.drop_eq_nil_of_le (by omega)
          rw [he] at hloop
          simp only [compLoop, Res.ok.injEq] at hloop
          obtain ⟨h1, h2⟩ := hloop
          subst h1 h2
          rw [List.append_nil] at hvs
          subst hvs
          refine h _ Hi Li (g1.trans gi) ⟨D, rfl, g1.free hD, nDi, acc, hDi, rd⟩
end
end Nf

namespace Nf
open PySem PySem.Spec PyProof.Rows L2
section
variable {z : Cz} {W : Wx} {X : Cx} {L : Lk} {H : Hp} {t : Tin} {R : Rr} {pos p : Pos}

/-! ### comprehensions -/
variable {it : Nf.It} {g : Nf.G} {c : T} {f : E} {is : List Nat}
theorem PTs.imp {X : Cx} {e : List Expr} {t t' : TT} (h : PTs X e t) (i : ∀ σ H Q, t' σ H Q → t σ H Q) : PTs X e t' := ⟨fun pins s σ H Q I q => h.run pins s σ H Q I (i σ H Q q)⟩
theorem xts_nil : PTs X [] (rdT z W Nf.tYes) := PTs.imp pts_nil fun σ H Q h => by
  obtain ⟨L0, H0, t0, L, env, t, r, h⟩ := h
  exact h H L (.refl r.ok)
theorem xts_one {e : Expr} (h : PT X e (rdT z W c)) : PTs X [e] (rdT z W c) := pts_one h
theorem xcomp [F : Fit z X] {elt tg iter : Expr} {ifs : List Expr} {scope : Scope} {own : List (PySem.Str × Nat)} (ns : List Nat) (hN : X.N.Nodup) (hi : PI X tg iter (rdIG z W it)) (ok : BlkOk X.N X.env.scope scope own) (hns : ns = own.map (·.2))
    (hg : ∀ (s : Shared) (H : Hp) (C : Addr) (cl : List (PySem.Str × Addr)) (fp : List Addr), PG (X.blk s H scope (compEnvC scope cl C X.env) fp) tg (rdG z g is))
    (ht : ∀ (s : Shared) (H : Hp) (C : Addr) (cl : List (PySem.Str × Addr)) (fp : List Addr), PTs (X.blk s H scope (compEnvC scope cl C X.env) fp) ifs (rdT z W0 c))
    (he : ∀ (s : Shared) (H : Hp) (C : Addr) (cl : List (PySem.Str × Addr)) (fp : List Addr), PE (X.blk s H scope (compEnvC scope cl C X.env) fp) elt (rd z W0 (RE z) f))
    (hsub : ∀ i ∈ is, i ∈ ns := by decide) (hs : ∀ x, foldedSetIterable iter X.env x = pure x := by intro _; rfl) :
    PE X (.ListComp elt [⟨tg, iter, ifs, 0⟩] scope pos) (rd z W (RN z) (eComp it g ns c f)) := by
  subst hns
  exact (pe_lc F.calm hN hi ok hg ht he hs).imp fun _ _ _ => rd_comp (tg := fun _ _ => none) hsub

/-! ### calls -/
def spOf (K : PySem.W.Frag) (fa : Nat → Addr) (g : List Val → M Val) : Sp := fun vs H Q _ => ∃ ta L args t, Ok ⟨K, ta, fa⟩ L H t ∧ Rvs ⟨K, ta, fa⟩ L H args vs ∧ match g args t with
  | .ok v t' => ∀ x H' L', Go ⟨K, ta, fa⟩ L H t L' H' t' → Rv ⟨K, ta, fa⟩ L' H' v x → Q x H'
  | .exc _ _ => False
  | .bad => False
/-- weaker: where g has an answer, g' has the same -/
theorem spOf_imp {K : PySem.W.Frag} {fa : Nat → Addr} {g g' : List Val → M Val} (h : ∀ args t, g' args t ≠ .bad → g args t = g' args t) : ∀ vs H Q E, spOf K fa g' vs H Q E → spOf K fa g vs H Q E := fun vs H Q E ⟨ta, L, args, t, ok, r, q⟩ => by
  refine ⟨ta, L, args, t, ok, r, ?_⟩
  rw [h args t (fun e => by rw [e] at q; exact q)]
  exact q
abbrev Fok (X : Cx) (z : Cz) (k : Nat) (f : Addr) (fd : FuncData) (ps : List PySem.Str) (g : List Val → M Val) : Prop := FnOk X.prog X.w X.K X.mg X.base CX0 k f fd ps (spOf z.K z.fa g)
variable {x : PySem.Str} {e : Expr} {es : List Expr} {fa : A}
theorem xcall (Γ : Gam) (j : Nat) {k : Nat} {ad : Addr} {fd : FuncData} {ps : List PySem.Str} (F : Fok X z k ad fd ps (Γ j)) (hr : Room k X.A) (hg : Gl X x) (hm : X.mg x = some (.ref ad)) (hk : PySem.W.keepIn X.K (.ref ad) = true) (hb : Binds X.K fd ps [])
    (ha : PA X (e :: es) (rdA z W (RE z) fa)) (hdb : (x == ("__debug__" : PySem.Str)) = false := by decide) (he : starEach (e :: es) X.env = (false, eval e X.env) :: starEach es X.env := by rfl) (hpl : (backTo pos (starEach es X.env)).any (·.1) = false := by rfl) :
    PE X (.Call (.Name x p) (e :: es) [] pos) (rd z W (RE z) (eCall Γ j fa)) := by
  refine (pe_call F hr hg hm hk hb .nil pass0 ha hdb he hpl).imp fun σ H Q h => ?_
  obtain ⟨L0, H0, t0, L, env, t, r, h⟩ := h
  refine ⟨L0, H0, t0, L, env, t, r, ?_⟩
  simp only [eCall] at h
  cases e : fa env t with
  | bad => rw [e] at h; exact h
  | exc k t' => rw [e] at h; exact h
  | ok vs t1 =>
    rw [e] at h
    simp only [Res.bind_ok] at h
    intro ys H1 L1 g1 ry
    have ry := ry.rvs
    rw [List.append_nil]
    refine ⟨z.ta, L1, vs, t1, g1.ok, ry, ?_⟩
    cases e2 : Γ j vs t1 with
    | bad => rw [e2] at h; exact h
    | exc k t' => rw [e2] at h; exact h
    | ok v t2 =>
      rw [e2] at h
      exact fun x H' L' g2 rv => h x H' L' (g1.trans g2) rv

/-! ### isinstance -/
def tyN : Val → Option String
  | .non => some "NoneType"
  | .bl _ => some "bool"
  | .int _ => some "int"
  | .str _ => some "str"
  | .tup _ => some "tuple"
  | .lst _ => some "list"
  | _ => none
def Ty.nm : Ty → String
  | .int => "int"
  | .bool => "bool"
  | .str => "str"
  | .tuple => "tuple"
  | .list => "list"
theorem kit_tbl (n : String) (hn : n ∈ ["NoneType", "bool", "int", "str", "tuple", "list"]) (ty : Ty) : ∃ b, kitB n ty.nm = some b := by
  simp only [List.mem_cons, List.not_mem_nil, or_false] at hn
  rcases hn with rfl | rfl | rfl | rfl | rfl | rfl <;> cases ty <;> first | exact ⟨true, by decide +kernel⟩ | exact ⟨false, by decide +kernel⟩
theorem isa_kit {v : Val} {ty : Ty} {b : Bool} (h : v.isa ty = some b) : ∃ n, tyN v = some n ∧ kitB n ty.nm = some b := by
  cases v <;> cases ty <;> simp only [Val.isa, Option.some.injEq, reduceCtorEq] at h <;> subst h <;> exact ⟨_, rfl, by decide +kernel⟩
theorem tyX_of {v : Val} {x : V} {n : String} (h : RO z L H L H v x) (e : tyN v = some n) : TyX z.K H x (.type n) := by
  cases v <;> simp only [tyN, Option.some.injEq, reduceCtorEq] at e <;> subst e
  · cases h.non; exact .base .non
  · cases h.bl; exact .base (.bl _)
  · cases h.int; exact .base (.int _)
  · cases h.str; exact .base (.str _)
  · obtain ⟨a, ys, rfl, h1, _⟩ := h.tup
    rcases h1 with (h1 | ⟨o, h1⟩) | ⟨o, _, _, h1, h2, _⟩
    · exact .base (.tup h1)
    · exact .fTuple h1
    · exact .kTuple h1 h2
  · obtain ⟨a, ys, rfl, h1, _⟩ := h.lst
    exact .base (.lst h1)
theorem xisa [F : Fit z X] {a : Expr} {p2 : Pos} (ty : Ty) (hg : Gl X "isinstance") (hm : X.mg "isinstance" = none) (hgT : Gl X (PySem.Str.ofString ty.nm)) (hmT : X.mg (PySem.Str.ofString ty.nm) = none) (ha : PE X a (rd z W (RO z) f))
    (hs1 : starEach [a, Expr.Name (PySem.Str.ofString ty.nm) p2] X.env = (false, eval a X.env) :: starEach [Expr.Name (PySem.Str.ofString ty.nm) p2] X.env := by rfl) (hpl : (backTo pos (starEach [Expr.Name (PySem.Str.ofString ty.nm) p2] X.env)).any (·.1) = false := by rfl) :
    PE X (.Call (.Name "isinstance" p) [a, .Name (PySem.Str.ofString ty.nm) p2] [] pos) (rd z W (RE z) (eUn (uIsa ty) f)) := by
  have hT : PE X (.Name (PySem.Str.ofString ty.nm) p2) (tC (.ty ty.nm)) := pe_bltn hgT hmT (by cases ty <;> decide +kernel) rfl (by cases ty <;> decide) (by cases ty <;> decide)
  refine (pe_callB call_isi hg hm (by decide +kernel) (pa_cons ha (pa_cons hT pa_nil) hs1) (by decide) (by decide) hs1 hpl).imp fun σ H Q h => ?_
  obtain ⟨L0, H0, t0, L, env, t, r, h⟩ := h
  refine ⟨L0, H0, t0, L, env, t, r, ?_⟩
  simp only [eUn] at h
  cases e : f env t with
  | bad => rw [e] at h; exact h
  | exc k t' => rw [e] at h; exact h
  | ok v t1 =>
    rw [e] at h
    simp only [Res.bind_ok, uIsa] at h
    intro x H1 L1 g1 rx
    cases e2 : v.isa ty with
    | none => rw [e2] at h; exact h.elim
    | some b =>
      rw [e2] at h
      obtain ⟨n, e3, e4⟩ := isa_kit e2
      refine ⟨x, .ty ty.nm, .type n, .type ty.nm, b, rfl, .ty _, by rw [F.K]; exact tyX_of (RO.go (.refl g1.ok) rx) e3, kit_ty e4, ?_⟩
      exact h _ H1 L1 g1 (by simp [RE, Rv])
theorem xisaT [F : Fit z X] {a : Expr} {p2 : Pos} {T : PySem.Str} (ty : Ty) (hT : T = PySem.Str.ofString ty.nm) (hg : Gl X "isinstance") (hm : X.mg "isinstance" = none) (hgT : Gl X T) (hmT : X.mg T = none) (ha : PE X a (rd z W (RO z) f))
    (hs1 : starEach [a, Expr.Name T p2] X.env = (false, eval a X.env) :: starEach [Expr.Name T p2] X.env := by rfl) (hpl : (backTo pos (starEach [Expr.Name T p2] X.env)).any (·.1) = false := by rfl) :
    PE X (.Call (.Name "isinstance" p) [a, .Name T p2] [] pos) (rd z W (RE z) (eUn (uIsa ty) f)) := by
  subst hT
  exact xisa ty hg hm hgT hmT ha hs1 hpl
theorem xisa2 [F : Fit z X] {a : Expr} {p2 p3 p4 : Pos} {kk : Nat} (ty ty2 : Ty) (hg : Gl X "isinstance") (hm : X.mg "isinstance" = none) (hgT : Gl X (PySem.Str.ofString ty.nm)) (hmT : X.mg (PySem.Str.ofString ty.nm) = none) (hgT2 : Gl X (PySem.Str.ofString ty2.nm)) (hmT2 : X.mg (PySem.Str.ofString ty2.nm) = none) (ha : PE X a (rd z W (RO z) f))
    (hs1 : starEach [a, Expr.Tuple [Expr.Name (PySem.Str.ofString ty.nm) p2, Expr.Name (PySem.Str.ofString ty2.nm) p3] kk p4] X.env = (false, eval a X.env) :: starEach [Expr.Tuple [Expr.Name (PySem.Str.ofString ty.nm) p2, Expr.Name (PySem.Str.ofString ty2.nm) p3] kk p4] X.env := by rfl)
    (hpl : (backTo pos (starEach [Expr.Tuple [Expr.Name (PySem.Str.ofString ty.nm) p2, Expr.Name (PySem.Str.ofString ty2.nm) p3] kk p4] X.env)).any (·.1) = false := by rfl) :
    PE X (.Call (.Name "isinstance" p) [a, .Tuple [.Name (PySem.Str.ofString ty.nm) p2, .Name (PySem.Str.ofString ty2.nm) p3] kk p4] [] pos) (rd z W (RE z) (eUn (uIsa2 ty ty2) f)) := by
  have hT : PE X (.Name (PySem.Str.ofString ty.nm) p2) (tC (.ty ty.nm)) := pe_bltn hgT hmT (by cases ty <;> decide +kernel) rfl (by cases ty <;> decide) (by cases ty <;> decide)
  have hT2 : PE X (.Name (PySem.Str.ofString ty2.nm) p3) (tC (.ty ty2.nm)) := pe_bltn hgT2 hmT2 (by cases ty2 <;> decide +kernel) rfl (by cases ty2 <;> decide) (by cases ty2 <;> decide)
  refine (pe_callB call_isiT hg hm (by decide +kernel) (pa_cons ha (pa_cons (pe_tup (pa_cons hT (pa_cons hT2 pa_nil))) pa_nil) hs1) (by decide) (by decide) hs1 hpl).imp fun σ H Q h => ?_
  obtain ⟨L0, H0, t0, L, env, t, r, h⟩ := h
  refine ⟨L0, H0, t0, L, env, t, r, ?_⟩
  simp only [eUn] at h
  cases e : f env t with
  | bad => rw [e] at h; exact h
  | exc k t' => rw [e] at h; exact h
  | ok v t1 =>
    rw [e] at h
    simp only [Res.bind_ok, uIsa2] at h
    intro x H1 L1 g1 rx
    cases e2 : v.isa ty with
    | none => rw [e2] at h; exact h.elim
    | some b =>
      rw [e2] at h
      simp only [Option.bind_some] at h
      cases e3 : v.isa ty2 with
      | none => rw [e3] at h; exact h.elim
      | some b2 =>
        rw [e3] at h
        obtain ⟨n, f1, f2⟩ := isa_kit e2
        obtain ⟨n2, f3, f4⟩ := isa_kit e3
        rw [f1] at f3; cases f3
        refine ⟨(show 2 ≤ sizeLine by decide), fun q hq => ?_⟩
        have g2 := Go.upd (o := .tup [.ty ty.nm, .ty ty2.nm]) g1.ok hq
        refine ⟨x, q, _, .type n, [.type ty.nm, .type ty2.nm], b || b2, rfl, upd_same, .cons (.ty _) (.cons (.ty _) .nil), by rw [F.K]; exact tyX_of (RO.go g2 rx) f1, ?_, ?_⟩
        · refine kitAny_cons (kit_ty f2) (fun hb => ?_) (fun hb => by rw [hb]; rfl)
          rw [hb, Bool.false_or]
          exact kitAny_cons (kit_ty f4) (fun hb => by rw [hb]; exact kitAny_nil) (fun hb => hb)
        · exact h _ _ L1 (g1.trans g2) (by simp [RE, Rv])

theorem xisa2T [F : Fit z X] {a : Expr} {p2 p3 p4 : Pos} {kk : Nat} {T T2 : PySem.Str} (ty ty2 : Ty) (hT : T = PySem.Str.ofString ty.nm) (hT2 : T2 = PySem.Str.ofString ty2.nm) (hg : Gl X "isinstance") (hm : X.mg "isinstance" = none) (hgT : Gl X T) (hmT : X.mg T = none) (hgT2 : Gl X T2) (hmT2 : X.mg T2 = none) (ha : PE X a (rd z W (RO z) f))
    (hs1 : starEach [a, Expr.Tuple [Expr.Name T p2, Expr.Name T2 p3] kk p4] X.env = (false, eval a X.env) :: starEach [Expr.Tuple [Expr.Name T p2, Expr.Name T2 p3] kk p4] X.env := by rfl)
    (hpl : (backTo pos (starEach [Expr.Tuple [Expr.Name T p2, Expr.Name T2 p3] kk p4] X.env)).any (·.1) = false := by rfl) :
    PE X (.Call (.Name "isinstance" p) [a, .Tuple [.Name T p2, .Name T2 p3] kk p4] [] pos) (rd z W (RE z) (eUn (uIsa2 ty ty2) f)) := by
  subst hT hT2
  exact xisa2 ty ty2 hg hm hgT hmT hgT2 hmT2 ha hs1 hpl

/-! ### x in xs -/
theorem flat_of : ∀ {v : Val} {x : V}, flat v = true → RO z L H L H v x → flatV x = true
  | .non, _, _, h => by cases h.non; rfl
  | .bl _, _, _, h => by cases h.bl; rfl
  | .int _, _, _, h => by cases h.int; rfl
  | .str _, _, _, h => by cases h.str; rfl
  | .tup _, _, h, _ => by simp [flat] at h
  | .lst _, _, h, _ => by simp [flat] at h
  | .iset _, _, h, _ => by simp [flat] at h
  | .dct _ _, _, h, _ => by simp [flat] at h
  | .tin, _, h, _ => by simp [flat] at h
  | .fn _, _, h, _ => by simp [flat] at h
  | .scr _, _, h, _ => by simp [flat] at h
theorem flats_of : ∀ {vs : List Val} {ys : List V}, vs.all flat = true → Rvs z L H vs ys → ys.all flatV = true
  | [], _, _, h => by simp only [Rvs] at h; subst h; rfl
  | v :: vs, _, e, h => by
    simp only [Rvs] at h
    obtain ⟨y, r, rfl, h1, h2⟩ := h
    simp only [List.all_cons, Bool.and_eq_true] at e ⊢
    exact ⟨flat_of e.1 (.inl h1), flats_of e.2 h2⟩
theorem veq_eqV {v w : Val} {x y : V} (fv : flat v = true) (fw : flat w = true) (hv : RO z L H L H v x) (hw : RO z L H L H w y) : eqV x y = veq v w := by
  cases v <;> simp only [flat, reduceCtorEq, Bool.false_eq_true] at fv <;> cases w <;> simp only [flat, reduceCtorEq, Bool.false_eq_true] at fw
  all_goals first | (cases hv.non) | (cases hv.bl) | (cases hv.int) | (cases hv.str)
  all_goals first | (cases hw.non) | (cases hw.bl) | (cases hw.int) | (cases hw.str)
  all_goals simp only [eqV, veq, ofString_eq]
  all_goals first | rfl | (rw [Bool.beq_eq_decide_eq]) 
theorem any_eqV {v : Val} {x : V} (fv : flat v = true) (hv : RO z L H L H v x) : ∀ {vs : List Val} {ys : List V}, vs.all flat = true → Rvs z L H vs ys → (ys.any fun y => eqV y x) = vs.any fun y => veq y v
  | [], _, _, h => by simp only [Rvs] at h; subst h; rfl
  | w :: vs, _, e, h => by
    simp only [Rvs] at h
    obtain ⟨y, r, rfl, h1, h2⟩ := h
    simp only [List.all_cons, Bool.and_eq_true] at e
    simp only [List.any_cons]
    rw [veq_eqV e.1 fv (.inl h1) hv, any_eqV fv hv e.2 h2]
theorem RO.seq [F : Fit z X] {v : Val} {x : V} {xs : List Val} (h : RO z L H L H v x) (e : items v = some xs) : ∃ a ys, x = .ref a ∧ (SqL X.K H a ys ∨ SqT X.K H a ys) ∧ Rvs z L H xs ys := by
  cases v <;> simp only [items, Option.some.injEq, reduceCtorEq] at e <;> subst e
  · obtain ⟨a, ys, rfl, h1, r⟩ := h.tup
    exact ⟨a, ys, rfl, .inr (by rw [F.K]; exact h1), r⟩
  · obtain ⟨a, ys, rfl, h1, r⟩ := h.lst
    exact ⟨a, ys, rfl, .inl (.inl (.inl h1)), r⟩
theorem os_in [F : Fit z X] : OpR X (compareOp .In) (rdOp z (RE z) cIn) := by
  intro pins s σ H x y v u Q I rx ry h
  obtain ⟨L, v', w', t, r, ok, hv, hw, e, q⟩ := h
  by_cases cd : ∃ ks vs, w' = .dct ks vs
  · obtain ⟨ks, vs, rfl⟩ := cd
    simp only [cIn] at e
    cases v' <;> simp only [reduceCtorEq, Option.some.injEq] at e
    subst e
    obtain ⟨a, zs, rfl, h1, h2, h3⟩ := hw.dct
    cases hv.int
    obtain rfl : u = Value.ref a := ry
    refine d_in (by have := F.hu; omega) I (.inl ⟨zs, .inl _, .inl h1, rfl, rfl⟩) rx fun s' I' => ⟨.bl (valV zs (.inl _)).isSome, H, I', rfl, ?_⟩
    rw [valV_has _ h2]
    exact q _ H L (.refl ok) (by simp [RE, Rv])
  have e0 : cIn v' w' = match items w' with
    | some xs => if flat v' && xs.all flat then some (.bl (xs.any fun y => veq y v')) else none
    | none => none := by
    unfold cIn
    split
    · rename_i ks vs; exact absurd ⟨ks, vs, rfl⟩ cd
    · rfl
  rw [e0] at e
  cases e1 : items w' with
  | none => rw [e1] at e; cases e
  | some xs =>
    rw [e1] at e
    by_cases c : (flat v' && xs.all flat) = true
    · simp only [c, if_true, Option.some.injEq] at e
      subst e
      rw [Bool.and_eq_true] at c
      obtain ⟨a, ys, rfl, h1, r1⟩ := RO.seq (X := X) hw e1
      refine op_in_seq pins s σ H x _ v u Q I rx ry ⟨a, ys, rfl, h1, flat_of c.1 hv, flats_of c.2 r1, ?_⟩
      simp only [Bool.false_eq_true, if_false]
      unfold inV
      rw [any_eqV c.1 hv c.2 r1]
      exact q _ H L (.refl ok) (by simp [RE, Rv])
    · simp only [c, Bool.false_eq_true, if_false] at e; cases e
theorem os_notin [F : Fit z X] : OpR X (compareOp .NotIn) (rdOp z (RE z) cNotIn) := by
  intro pins s σ H x y v u Q I rx ry h
  obtain ⟨L, v', w', t, r, ok, hv, hw, e, q⟩ := h
  by_cases cd : ∃ ks vs, w' = .dct ks vs
  · obtain ⟨ks, vs, rfl⟩ := cd
    simp only [cNotIn] at e
    cases v' <;> simp only [reduceCtorEq, Option.some.injEq] at e
    subst e
    obtain ⟨a, zs, rfl, h1, h2, h3⟩ := hw.dct
    cases hv.int
    obtain rfl : u = Value.ref a := ry
    refine d_notIn (by have := F.hu; omega) I (.inl ⟨zs, .inl _, .inl h1, rfl, rfl⟩) rx fun s' I' => ⟨.bl (!(valV zs (.inl _)).isSome), H, I', rfl, ?_⟩
    rw [valV_has _ h2]
    exact q _ H L (.refl ok) (by simp [RE, Rv])
  have e0 : cNotIn v' w' = match items w' with
    | some xs => if flat v' && xs.all flat then some (.bl (!xs.any fun y => veq y v')) else none
    | none => none := by
    unfold cNotIn
    split
    · rename_i ks vs; exact absurd ⟨ks, vs, rfl⟩ cd
    · rfl
  rw [e0] at e
  cases e1 : items w' with
  | none => rw [e1] at e; cases e
  | some xs =>
    rw [e1] at e
    by_cases c : (flat v' && xs.all flat) = true
    · simp only [c, if_true, Option.some.injEq] at e
      subst e
      rw [Bool.and_eq_true] at c
      obtain ⟨a, ys, rfl, h1, r1⟩ := RO.seq (X := X) hw e1
      refine op_notIn_seq pins s σ H x _ v u Q I rx ry ⟨a, ys, rfl, h1, flat_of c.1 hv, flats_of c.2 r1, ?_⟩
      simp only [if_true]
      unfold inV
      rw [any_eqV c.1 hv c.2 r1]
      exact q _ H L (.refl ok) (by simp [RE, Rv])
    · simp only [c, Bool.false_eq_true, if_false] at e; cases e

/-! ### list(range(..)) -/
theorem rg_vals (m n : Int) : Rvs z L H (rangeL m n) (rgV m n) := by
  unfold rangeL rgV
  have : ∀ l : List Nat, Rvs z L H (l.map fun k : Nat => Val.int (m + (k : Int))) (l.map fun i : Nat => V.int (m + (i : Int))) := by
    intro l
    induction l with
    | nil => exact Rvs.nil
    | cons a l ih => exact Rvs.cons (by simp [Rv]) ih
  exact this _
theorem xlrg1 [F : Fit z X] {a : Expr} {p2 p3 : Pos} (hg : Gl X "list") (hm : X.mg "list" = none) (hg2 : Gl X "range") (hm2 : X.mg "range" = none) (ha : PE X a (rd z W (RO z) f))
    (na : starEach [a] X.env = (false, eval a X.env) :: starEach [] X.env := by rfl) (na2 : starEach [Expr.Call (.Name "range" p2) [a] [] p3] X.env = (false, eval (Expr.Call (.Name "range" p2) [a] [] p3) X.env) :: starEach [] X.env := by rfl) :
    PE X (.Call (.Name "list" p) [.Call (.Name "range" p2) [a] [] p3] [] pos) (rd z W (RN z) (eLRg1 f)) := by
  refine (pe_listRg F.calm hg hm (prg_1 hg2 hm2 ha na) na2).imp fun σ H Q h => ?_
  obtain ⟨L0, H0, t0, L, env, t, r, h⟩ := h
  refine ⟨L0, H0, t0, L, env, t, r, ?_⟩
  simp only [eLRg1] at h
  cases e : f env t with
  | bad => rw [e] at h; exact h
  | exc k t' => rw [e] at h; exact h
  | ok v t1 =>
    rw [e] at h
    simp only [Res.bind_ok] at h
    intro x H1 L1 g1 rx
    cases v <;> simp only at h <;> first | exact h.elim | skip
    rename_i n
    by_cases c : -(lim : Int) ≤ n ∧ n ≤ lim
    · rw [if_pos c] at h
      cases rx.int
      have : (lim : Int) = 1000000 := rfl
      rw [this] at c
      refine ⟨n, rfl, ⟨by omega, by omega, by omega, by omega, by omega⟩, fun q hq => ?_⟩
      exact newN g1.ok (rg_vals 0 n) (fun u H' L' g2 r2 => h u H' L' (g1.trans g2) (RN.back.go g1 r2)) hq
    · rw [if_neg c] at h; exact h.elim
theorem xlrg2 [F : Fit z X] {g : E} {a b : Expr} {p2 p3 : Pos} (hg : Gl X "list") (hm : X.mg "list" = none) (hg2 : Gl X "range") (hm2 : X.mg "range" = none) (ha : PE X a (rd z W (RO z) f)) (hb : PE X b (rd z W (RO z) g))
    (na : starEach [a, b] X.env = (false, eval a X.env) :: starEach [b] X.env := by rfl) (nb : starEach [b] X.env = (false, eval b X.env) :: starEach [] X.env := by rfl) (hpl : (backTo p3 (starEach [b] X.env)).any (·.1) = false := by rfl)
    (na2 : starEach [Expr.Call (.Name "range" p2) [a, b] [] p3] X.env = (false, eval (Expr.Call (.Name "range" p2) [a, b] [] p3) X.env) :: starEach [] X.env := by rfl) :
    PE X (.Call (.Name "list" p) [.Call (.Name "range" p2) [a, b] [] p3] [] pos) (rd z W (RN z) (eLRg2 f g)) := by
  refine (pe_listRg F.calm hg hm (prg_2 hg2 hm2 ha hb na nb hpl) na2).imp fun σ H Q h => ?_
  obtain ⟨L0, H0, t0, L, env, t, r, h⟩ := h
  refine ⟨L0, H0, t0, L, env, t, r, ?_⟩
  simp only [eLRg2] at h
  cases e : f env t with
  | bad => rw [e] at h; exact h
  | exc k t' => rw [e] at h; exact h
  | ok v t1 =>
    rw [e] at h
    simp only [Res.bind_ok] at h
    intro x H1 L1 g1 rx
    refine ⟨L0, H0, t0, L1, env, t1, r.go g1, ?_⟩
    cases e2 : g env t1 with
    | bad => rw [e2] at h; exact h
    | exc k t' => rw [e2] at h; exact fun H' L' g2 => h H' L' (g1.trans g2)
    | ok w t2 =>
      rw [e2] at h
      simp only [Res.bind_ok] at h
      intro y H2 L2 g2 ry
      cases v <;> cases w <;> simp only at h <;> first | exact h.elim | skip
      rename_i m n
      by_cases c : -(lim : Int) ≤ m ∧ m ≤ lim ∧ -(lim : Int) ≤ n ∧ n ≤ lim
      · rw [if_pos c] at h
        cases (RO.go g2 rx).int
        cases ry.int
        have : (lim : Int) = 1000000 := rfl
        rw [this] at c
        refine ⟨m, n, rfl, rfl, ⟨by omega, by omega, by omega, by omega, by omega⟩, fun q hq => ?_⟩
        exact newN g2.ok (rg_vals m n) (fun u H' L' g3 r2 => h u H' L' ((g1.trans g2).trans g3) (RN.back.go (g1.trans g2) r2)) hq
      · rw [if_neg c] at h; exact h.elim
end
end Nf

namespace Nf
open PySem PySem.Spec PyProof.Rows L2
section
variable {z : Cz} {W : Wx} {X : Cx} {L L0 : Lk} {H H0 : Hp} {t t0 : Tin} {R : Rr} {pos p : Pos} {env : Env} {σ : List (Option V)}

/-! ### lists of the frame's own -/
theorem ownL_some {i : Nat} {xs : List Val} (e : ownL i env = some xs) : env[i]? = some (some (true, .lst xs)) := by
  unfold ownL at e
  split at e
  · rename_i ys h
    cases e; exact h
  · cases e
/-- a list of the frame's own is changed -/
theorem RelS.ownL {i : Nat} {xs : List Val} (r : RelS z L0 H0 t0 L env t σ H) (e : Nf.ownL i env = some xs) : ∃ a ys, σ[i]? = some (some (.ref a)) ∧ H a = some (.lst ys) ∧ Rvs z L H xs ys ∧
    ∀ xs' ys', Rvs z L H xs' ys' → RelS z L0 H0 t0 L (putL i xs' env) t σ (upd H a (.lst ys')) ∧ Keep L H L (upd H a (.lst ys')) := by
  have e := ownL_some e
  obtain ⟨oa, h1, h2⟩ := r.own
  obtain ⟨eσ, nl, n0, nta, ov⟩ := h1 i _ e
  obtain ⟨ys, hy, ry⟩ := ov
  refine ⟨oa i, ys, eσ, hy, ry, fun xs' ys' r' => ?_⟩
  have kk : Keep L H L (upd H (oa i) (.lst ys')) := Keep.at nl hy
  have hi : i < env.length := by
    rcases Nat.lt_or_ge i env.length with h | h
    · exact h
    · rw [List.getElem?_eq_none h] at e; cases e
  refine ⟨?_, kk⟩
  refine ⟨⟨r.base.1, r.base.2.1, fun a o ha hta => ?_, r.base.2.2.2⟩, ⟨fun a la => ?_, fun a ea => ⟨(r.ok.2 a ea).1, ?_⟩⟩, ?_, fun j v ej => ?_, oa, fun j v ej => ?_, fun j k v w ej ek n => ?_⟩
  · have n : a ≠ oa i := fun q => by subst q; rw [n0] at ha; cases ha
    rw [upd_ne n]; exact r.base.2.2.1 a o ha hta
  · by_cases n : a = oa i
    · subst n; exact ⟨_, upd_same⟩
    · rw [upd_ne n]; exact r.ok.1 a la
  · have n : a ≠ oa i := fun q => by subst q; exact nta ea
    rw [upd_ne n]; exact (r.ok.2 a ea).2
  · unfold putL; rw [List.length_set]; exact r.len
  · unfold putL at ej
    by_cases q : i = j
    · subst q; rw [getElem?_set_self' hi] at ej; cases ej
    · rw [getElem?_set_ne' q] at ej
      obtain ⟨x, hx, rx⟩ := r.val j v ej
      exact ⟨x, hx, Rv.keep kk v rx⟩
  · unfold putL at ej
    by_cases q : i = j
    · subst q
      rw [getElem?_set_self' hi] at ej; cases ej
      exact ⟨eσ, nl, n0, nta, ys', upd_same, Rvs.keep kk _ r'⟩
    · rw [getElem?_set_ne' q] at ej
      obtain ⟨a1, a2, a3, a4, a5⟩ := h1 j v ej
      have n : oa j ≠ oa i := h2 j i v _ ej e (Ne.symm q)
      exact ⟨a1, a2, a3, a4, a5.keep kk fun o eo => by rw [upd_ne n]; exact eo⟩
  · unfold putL at ej ek
    have fix : ∀ {j : Nat} {v : Val}, (env.set i (some (true, .lst xs')))[j]? = some (some (true, v)) → ∃ v', env[j]? = some (some (true, v')) := fun {j v} ej => by
      by_cases q : i = j
      · subst q; exact ⟨_, e⟩
      · rw [getElem?_set_ne' q] at ej; exact ⟨_, ej⟩
    obtain ⟨v', e1⟩ := fix ej
    obtain ⟨w', e2⟩ := fix ek
    exact h2 j k v' w' e1 e2 n
/-- a slot takes a new list -/
theorem RelS.putOwn {i : Nat} {v0 : Val} {a : Addr} (r : RelS z L0 H0 t0 L env t σ H) (hi : i < env.length) (ov : OwnV z L H v0 a) (nl : ¬ L a) (n0 : H0 a = none) (nta : z.ta ≠ some a)
    (hd : ∀ (j : Nat) (v : Val), env[j]? = some (some (true, v)) → σ[j]? ≠ some (some (V.ref a))) : RelS z L0 H0 t0 L (env.set i (some (true, v0))) t (σ.set i (some (V.ref a))) H := by
  obtain ⟨oa, h1, h2⟩ := r.own
  have hs : i < σ.length := by rw [← r.len]; exact hi
  refine ⟨r.base, r.ok, by rw [List.length_set, List.length_set]; exact r.len, fun j v ej => ?_, fun j => if j = i then a else oa j, fun j v ej => ?_, fun j k v w ej ek n => ?_⟩
  · by_cases q : i = j
    · subst q; rw [getElem?_set_self' hi] at ej; cases ej
    · rw [getElem?_set_ne' q] at ej ⊢; exact r.val j v ej
  · by_cases q : i = j
    · subst q
      rw [getElem?_set_self' hi] at ej; cases ej
      rw [getElem?_set_self' hs]
      simp only [if_true]
      exact ⟨trivial, nl, n0, nta, ov⟩
    · rw [getElem?_set_ne' q] at ej ⊢
      simp only [if_neg (Ne.symm q)]; exact h1 j v ej
  · have ne : ∀ j v, i ≠ j → (env.set i (some (true, v0)))[j]? = some (some (true, v)) → oa j ≠ a := fun j v q ej e => by
      rw [getElem?_set_ne' q] at ej
      exact hd j v ej (by rw [(h1 j v ej).1, e])
    by_cases q : i = j <;> by_cases q2 : i = k
    · subst q; subst q2; exact absurd rfl n
    · subst q; simp only [if_true, if_neg (Ne.symm q2)]; exact Ne.symm (ne k w q2 ek)
    · subst q2; simp only [if_true, if_neg (Ne.symm q)]; exact ne j v q ej
    · simp only [if_neg (Ne.symm q), if_neg (Ne.symm q2)]
      rw [getElem?_set_ne' q] at ej; rw [getElem?_set_ne' q2] at ek
      exact h2 j k v w ej ek n
/-- every own list is given away -/
theorem RelS.frzAll (r : RelS z L0 H0 t0 L env t σ H) : ∃ L', RelS z L0 H0 t0 L' (Nf.frzAll env) t σ H := by
  obtain ⟨oa, h1, h2⟩ := r.own
  have up : Keep L H (fun b => L b ∨ ∃ i v, env[i]? = some (some (true, v)) ∧ b = oa i) H := ⟨fun _ h => .inl h, fun _ _ h _ => h⟩
  refine ⟨fun b => L b ∨ ∃ i v, env[i]? = some (some (true, v)) ∧ b = oa i, ⟨fun a h => .inl (r.base.1 a h), fun a h => ?_, r.base.2.2.1, r.base.2.2.2⟩, ⟨fun a h => ?_, fun a e => ⟨fun h => ?_, (r.ok.2 a e).2⟩⟩, by unfold Nf.frzAll; rw [List.length_map]; exact r.len, fun i v e => ?_, oa, fun i v e => ?_, fun i j v w e => ?_⟩
  · rcases h with h | ⟨i, v, e, rfl⟩
    · exact r.base.2.1 a h
    · exact .inr (h1 i v e).2.2.1
  · rcases h with h | ⟨i, v, e, rfl⟩
    · exact r.ok.1 a h
    · exact (h1 i v e).2.2.2.2.there
  · rcases h with h | ⟨i, v, e', rfl⟩
    · exact (r.ok.2 a e).1 h
    · exact (h1 i v e').2.2.2.1 e
  · unfold Nf.frzAll at e
    rw [List.getElem?_map] at e
    cases q : env[i]? with
    | none => rw [q] at e; cases e
    | some o =>
      rw [q] at e
      match o, q, e with
      | none, _, e => cases e
      | some (false, u), q, e =>
        cases e
        obtain ⟨x, hx, rx⟩ := r.val i _ q
        exact ⟨x, hx, Rv.keep up _ rx⟩
      | some (true, u), q, e =>
        cases e
        obtain ⟨a1, a2, a3, a4, a5⟩ := h1 i _ q
        refine ⟨_, a1, ?_⟩
        exact (a5.keep up fun _ h => h).rv (.inr ⟨i, _, q, rfl⟩)
  · unfold Nf.frzAll at e
    rw [List.getElem?_map] at e
    cases q : env[i]? with
    | none => rw [q] at e; cases e
    | some o => rw [q] at e; cases o <;> cases e
  · unfold Nf.frzAll at e
    rw [List.getElem?_map] at e
    cases q : env[i]? with
    | none => rw [q] at e; cases e
    | some o => rw [q] at e; cases o <;> cases e
/-- one own list is given away -/
theorem RelS.frz1 (i : Nat) (r : RelS z L0 H0 t0 L env t σ H) : ∃ L', RelS z L0 H0 t0 L' (Nf.frz1 i env) t σ H ∧ Keep L H L' H := by
  obtain ⟨oa, h1, h2⟩ := r.own
  cases q : env[i]? with
  | none => refine ⟨L, ?_, .refl _ _⟩; unfold Nf.frz1; rw [q]; exact r
  | some o =>
    cases o with
    | none => refine ⟨L, ?_, .refl _ _⟩; unfold Nf.frz1; rw [q]; exact r
    | some pv =>
      obtain ⟨b, u⟩ := pv
      have hi : i < env.length := by
        rcases Nat.lt_or_ge i env.length with h | h
        · exact h
        · rw [List.getElem?_eq_none h] at q; cases q
      have e0 : Nf.frz1 i env = env.set i (some (false, u)) := by unfold Nf.frz1; rw [q]
      rw [e0]
      cases b with
      | false =>
        refine ⟨L, ?_, .refl _ _⟩
        have : env.set i (some (false, u)) = env := by
          apply List.ext_getElem?
          intro j
          by_cases h : i = j
          · subst h; rw [getElem?_set_self' hi, q]
          · rw [getElem?_set_ne' h]
        rw [this]; exact r
      | true =>
        obtain ⟨a1, a2, a3, a4, a5⟩ := h1 i _ q
        have up : Keep L H (lockAt L (oa i)) H := Keep.lock
        refine ⟨lockAt L (oa i), ⟨⟨fun a h => .inl (r.base.1 a h), fun a h => ?_, r.base.2.2.1, r.base.2.2.2⟩, ⟨fun a h => ?_, fun a e => ⟨fun h => ?_, (r.ok.2 a e).2⟩⟩, by rw [List.length_set]; exact r.len, fun j v e => ?_, oa, fun j v e => ?_, fun j k v w ej ek n => ?_⟩, up⟩
        · rcases h with h | rfl
          · exact r.base.2.1 a h
          · exact .inr a3
        · rcases h with h | rfl
          · exact r.ok.1 a h
          · exact a5.there
        · rcases h with h | rfl
          · exact (r.ok.2 a e).1 h
          · exact a4 e
        · by_cases h : i = j
          · subst h
            rw [getElem?_set_self' hi] at e
            cases e
            exact ⟨_, a1, (a5.keep up fun _ h => h).rv (.inr rfl)⟩
          · rw [getElem?_set_ne' h] at e
            obtain ⟨x, hx, rx⟩ := r.val j v e
            exact ⟨x, hx, Rv.keep up v rx⟩
        · by_cases h : i = j
          · subst h; rw [getElem?_set_self' hi] at e; cases e
          · rw [getElem?_set_ne' h] at e
            obtain ⟨c1, c2, c3, c4, c5⟩ := h1 j v e
            refine ⟨c1, fun l => ?_, c3, c4, c5.keep up fun _ h => h⟩
            rcases l with l | l
            · exact c2 l
            · exact h2 j i v _ e q (Ne.symm h) l
        · have n1 : i ≠ j := fun h => by subst h; rw [getElem?_set_self' hi] at ej; cases ej
          have n2 : i ≠ k := fun h => by subst h; rw [getElem?_set_self' hi] at ek; cases ek
          rw [getElem?_set_ne' n1] at ej; rw [getElem?_set_ne' n2] at ek
          exact h2 j k v w ej ek n

/-! ### statements -/
def rdX (z : Cz) (W : Wx) (f : Nf.S) : TS := fun D σ H => ∃ L0 H0 t0 L env t, RelS z L0 H0 t0 L env t σ H ∧ match f env t with
  | .nx env' t' => ∀ σ' H' L', RelS z L0 H0 t0 L' env' t' σ' H' → Keep L H L' H' → D.nx σ' H'
  | .bk env' t' => ∀ σ' H' L', RelS z L0 H0 t0 L' env' t' σ' H' → Keep L H L' H' → D.bk σ' H'
  | .ct env' t' => ∀ σ' H' L', RelS z L0 H0 t0 L' env' t' σ' H' → Keep L H L' H' → D.ct σ' H'
  | .rt v t' => ∀ x H' L', Go z L0 H0 t0 L' H' t' → Rv z L' H' v x → D.rt x H'
  | .exc k t' => ∀ H' L', Go z L0 H0 t0 L' H' t' → W k H'
  | .bad => False
variable {st : Stmt} {rest : List Stmt} {f g : Nf.S}
theorem xss_nil : PSs X [] (rdX z W sNil) := pss_nil.imp fun D σ H h => by
  obtain ⟨L0, H0, t0, L, env, t, r, h⟩ := h
  exact h σ H L r (.refl _ _)
theorem xss_cons (h1 : PS X st (rdX z W f)) (h2 : PSs X rest (rdX z W g)) : PSs X (st :: rest) (rdX z W (sSeq f g)) := (pss_cons h1 h2).imp fun D σ H h => by
  obtain ⟨L0, H0, t0, L, env, t, r, h⟩ := h
  refine ⟨L0, H0, t0, L, env, t, r, ?_⟩
  simp only [sSeq] at h
  cases e : f env t with
  | bad => rw [e] at h; exact h
  | exc k t' => rw [e] at h; exact h
  | rt v t' => rw [e] at h; exact h
  | bk e' t' => rw [e] at h; exact h
  | ct e' t' => rw [e] at h; exact h
  | nx env1 t1 =>
    rw [e] at h
    simp only at h
    intro σ1 H1 L1 r1 k1
    refine ⟨L0, H0, t0, L1, env1, t1, r1, ?_⟩
    cases e2 : g env1 t1 with
    | bad => rw [e2] at h; exact h
    | exc k t' => rw [e2] at h; exact h
    | rt v t' => rw [e2] at h; exact h
    | bk e' t' => rw [e2] at h; exact fun σ' H' L' r' k' => h σ' H' L' r' (k1.trans k')
    | ct e' t' => rw [e2] at h; exact fun σ' H' L' r' k' => h σ' H' L' r' (k1.trans k')
    | nx e' t' => rw [e2] at h; exact fun σ' H' L' r' k' => h σ' H' L' r' (k1.trans k')
theorem xss_one (h1 : PS X st (rdX z W f)) : PSs X [st] (rdX z W f) := pss_one h1
/-- a ghost step ahead of a statement: the own list at i is given away -/
theorem rd_frz {i : Nat} {D : Ends} {σ H} (h : rdX z W (sFrz i f) D σ H) : rdX z W f D σ H := by
  obtain ⟨L0, H0, t0, L, env, t, r, h⟩ := h
  obtain ⟨L1, r1, k1⟩ := r.frz1 i
  refine ⟨L0, H0, t0, L1, _, t, r1, ?_⟩
  simp only [sFrz] at h
  cases e : f (Nf.frz1 i env) t with
  | bad => rw [e] at h; exact h
  | exc k t' => rw [e] at h; exact h
  | rt v t' => rw [e] at h; exact h
  | bk e' t' => rw [e] at h; exact fun σ' H' L' r' k' => h σ' H' L' r' (k1.trans k')
  | ct e' t' => rw [e] at h; exact fun σ' H' L' r' k' => h σ' H' L' r' (k1.trans k')
  | nx e' t' => rw [e] at h; exact fun σ' H' L' r' k' => h σ' H' L' r' (k1.trans k')
theorem xfrz (i : Nat) (h : PS X st (rdX z W f)) : PS X st (rdX z W (sFrz i f)) := h.imp fun _ _ _ => rd_frz
theorem xbreak : PS X (.Break pos) (rdX z W sBreak) := ps_break.imp fun D σ H h => by
  obtain ⟨L0, H0, t0, L, env, t, r, h⟩ := h
  exact h σ H L r (.refl _ _)
theorem xcont : PS X (.Continue pos) (rdX z W sCont) := ps_continue.imp fun D σ H h => by
  obtain ⟨L0, H0, t0, L, env, t, r, h⟩ := h
  exact h σ H L r (.refl _ _)
theorem xpass : PS X (.Pass pos) (rdX z W sNil) := ps_pass.imp fun D σ H h => by
  obtain ⟨L0, H0, t0, L, env, t, r, h⟩ := h
  exact h σ H L r (.refl _ _)
/-- a statement that is never reached -/
theorem xbad : PS X st (rdX z W sBad) := ps_never.imp fun D σ H h => by
  obtain ⟨L0, H0, t0, L, env, t, r, h⟩ := h
  exact h
variable {e : Expr} {fe : E} {c : Expr} {ct : T}
theorem xret (he : PE X e (rd z W (RE z) fe)) : PS X (.Return (some e) pos) (rdX z W (sRet fe)) := (ps_ret he).imp fun D σ H h => by
  obtain ⟨L0, H0, t0, L, env, t, r, h⟩ := h
  obtain ⟨L1, r1⟩ := r.frzAll
  refine ⟨L0, H0, t0, L1, _, t, r1, ?_⟩
  simp only [sRet] at h
  cases e : fe (frzAll env) t with
  | bad => rw [e] at h; exact h
  | exc k t' => rw [e] at h; exact fun H' L' g => h H' L' (r1.base'.trans g)
  | ok v t' => rw [e] at h; exact fun x H' L' g rv => h x H' L' (r1.base'.trans g) rv
theorem xif' {a b : List Stmt} (hc : PT X c (rdT z W ct)) (ha : PSs X a (rdX z W f)) (hb : PSs X b (rdX z W g)) : PS X (.If c a b pos) (rdX z W (sIf ct f g)) := (ps_if hc ha hb).imp fun D σ H h => by
  obtain ⟨L0, H0, t0, L, env, t, r, h⟩ := h
  refine ⟨L0, H0, t0, L, env, t, r, ?_⟩
  simp only [sIf] at h
  have fin : ∀ (s : Nf.S) (L1 : Lk) (H1 : Hp) (t1 : Tin), Go z L H t L1 H1 t1 → (match s env t1 with
      | .nx env' t' => ∀ σ' H' L', RelS z L0 H0 t0 L' env' t' σ' H' → Keep L H L' H' → D.nx σ' H'
      | .bk env' t' => ∀ σ' H' L', RelS z L0 H0 t0 L' env' t' σ' H' → Keep L H L' H' → D.bk σ' H'
      | .ct env' t' => ∀ σ' H' L', RelS z L0 H0 t0 L' env' t' σ' H' → Keep L H L' H' → D.ct σ' H'
      | .rt v t' => ∀ x H' L', Go z L0 H0 t0 L' H' t' → Rv z L' H' v x → D.rt x H'
      | .exc k t' => ∀ H' L', Go z L0 H0 t0 L' H' t' → W k H'
      | .bad => False) → rdX z W s D σ H1 := fun s L1 H1 t1 g1 h => by
    refine ⟨L0, H0, t0, L1, env, t1, r.go g1, ?_⟩
    cases e : s env t1 with
    | bad => rw [e] at h; exact h
    | exc k t' => rw [e] at h; exact h
    | rt v t' => rw [e] at h; exact h
    | bk e' t' => rw [e] at h; exact fun σ' H' L' r' k' => h σ' H' L' r' (g1.keep.trans k')
    | ct e' t' => rw [e] at h; exact fun σ' H' L' r' k' => h σ' H' L' r' (g1.keep.trans k')
    | nx e' t' => rw [e] at h; exact fun σ' H' L' r' k' => h σ' H' L' r' (g1.keep.trans k')
  cases e : ct env t with
  | bad => rw [e] at h; exact h
  | exc k t' => rw [e] at h; exact fun H' L' g => h H' L' (r.base'.trans g)
  | ok b t1 =>
    rw [e] at h
    simp only [Res.toS_ok] at h
    intro H1 L1 g1
    cases b with
    | true =>
      rw [if_pos rfl] at h ⊢
      exact fin f L1 H1 t1 g1 h
    | false =>
      rw [if_neg (by decide)] at h ⊢
      exact fin g L1 H1 t1 g1 h
/-! ### stores -/
theorem rd_asg {tg : Nf.G} {is : List Nat} {D : Ends} {σ H} (h : rdX z W (sAsg tg fe) D σ H) : tAsg (rd z W (RE z) fe) (rdG z tg is) D σ H := by
  obtain ⟨L0, H0, t0, L, env, t, r, h⟩ := h
  refine ⟨L0, H0, t0, L, env, t, r, ?_⟩
  simp only [sAsg] at h
  cases e : fe env t with
  | bad => rw [e] at h; exact h
  | exc k t' => rw [e] at h; exact fun H' L' g => h H' L' (r.base'.trans g)
  | ok v t1 =>
    rw [e] at h
    simp only [Res.toS_ok] at h
    intro x H1 L1 g1 rx
    refine ⟨L0, H0, t0, L1, env, t1, v, r.go g1, rx, ?_⟩
    cases e2 : tg v env with
    | none => rw [e2] at h; exact h.elim
    | some env' =>
      rw [e2] at h
      exact fun σ' r' _ => h σ' H1 L1 r' g1.keep
/-- target = e -/
theorem xasg {tg : Expr} {gg : Nf.G} {is : List Nat} (he : PE X e (rd z W (RE z) fe)) (hg : PG X tg (rdG z gg is)) (hs : swapsWithSole [tg] e pos.line X.env = pure false := by rfl) (hw : swappedStores [tg] e X.env = pure none := by rfl)
    (h1 : (assignEach [tg] X.env).map (·.2) = [assign tg X.env] := by rfl) : PS X (.Assign [tg] e pos) (rdX z W (sAsg gg fe)) := (ps_asg he hg hs hw h1).imp fun _ _ _ => rd_asg
/-- what a name takes -/
theorem rd_set {i : Nat} {D : Ends} {σ H} (h : rdX z W (sAsg (Nf.gName i) fe) D σ H) : tAsg (rd z W (RE z) fe) (L2.gName i) D σ H := by
  obtain ⟨L0, H0, t0, L, env, t, r, h⟩ := h
  refine ⟨L0, H0, t0, L, env, t, r, ?_⟩
  simp only [sAsg] at h
  cases e : fe env t with
  | bad => rw [e] at h; exact h
  | exc k t' => rw [e] at h; exact fun H' L' g => h H' L' (r.base'.trans g)
  | ok v t1 =>
    rw [e] at h
    simp only [Res.toS_ok, Nf.gName] at h
    intro x H1 L1 g1 rx
    by_cases hl : i < env.length
    · rw [if_pos hl] at h
      exact h _ H1 L1 ((r.go g1).put rx hl) g1.keep
    · rw [if_neg hl] at h; exact h.elim
theorem xset (i : Nat) {x : PySem.Str} (hN : X.N.Nodup) (hi : X.N[i]? = some x) (hx : Loc X.env.scope x) (he : PE X e (rd z W (RE z) fe)) (hs : swapsWith e (some (.Name x p)) pos.line X.env = pure false := by rfl)
    (hf : X.fn x = true ∨ X.env.scope.names.lookup x = some .local := by first | exact .inl rfl | exact .inr rfl | assumption) : PS X (.Assign [.Name x p] e pos) (rdX z W (sAsg (Nf.gName i) fe)) :=
  (ps_set hN hi hx he hs hf).imp fun _ _ _ => rd_set
theorem rd_setO {i : Nat} {D : Ends} {σ H} (h : rdX z W (sAsgO i fe) D σ H) : tAsg (rd z W (RN z) fe) (L2.gName i) D σ H := by
  obtain ⟨L0, H0, t0, L, env, t, r, h⟩ := h
  refine ⟨L0, H0, t0, L, env, t, r, ?_⟩
  simp only [sAsgO] at h
  cases e : fe env t with
  | bad => rw [e] at h; exact h
  | exc k t' => rw [e] at h; exact fun H' L' g => h H' L' (r.base'.trans g)
  | ok v t1 =>
    rw [e] at h
    simp only [Res.toS_ok] at h
    intro x H1 L1 g1 rx
    obtain ⟨a, rfl, ha, nl, rv⟩ := rx
    by_cases hl : i < env.length
    · rw [if_pos hl] at h
      refine h _ H1 L1 ((r.go g1).putOwn hl rv nl (r.base'.free ha) (r.ok.ta_ne ha) fun j v ej es => ?_) g1.keep
      obtain ⟨oa, h1, _⟩ := r.own
      obtain ⟨e1, _, _, _, o⟩ := h1 j v ej
      rw [e1] at es; cases es
      obtain ⟨u, eu⟩ := o.there
      rw [ha] at eu; cases eu
    · rw [if_neg hl] at h; exact h.elim
theorem xsetO (i : Nat) {x : PySem.Str} (hN : X.N.Nodup) (hi : X.N[i]? = some x) (hx : Loc X.env.scope x) (he : PE X e (rd z W (RN z) fe)) (hs : swapsWith e (some (.Name x p)) pos.line X.env = pure false := by rfl)
    (hf : X.fn x = true ∨ X.env.scope.names.lookup x = some .local := by first | exact .inl rfl | exact .inr rfl | assumption) : PS X (.Assign [.Name x p] e pos) (rdX z W (sAsgO i fe)) :=
  (ps_set hN hi hx he hs hf).imp fun _ _ _ => rd_setO
/-- name = [..] of a comprehension on the same line -/
theorem xsetLc [F : Fit z X] (i : Nat) {x : PySem.Str} {it : Nf.It} {g : Nf.G} {cc : T} {f : E} {is : List Nat} {elt tg iter : Expr} {ifs : List Expr} {scope : Scope} {own : List (PySem.Str × Nat)} {spos : Pos} (ns : List Nat) (hN : X.N.Nodup) (hy : X.N[i]? = some x) (hyl : X.env.scope.names.lookup x = some .local)
    (hsw : swapsWith (.ListComp elt [⟨tg, iter, ifs, 0⟩] scope pos) (some (.Name x p)) spos.line X.env = pure true)
    (hi : PI X tg iter (rdIG z W it)) (ok : BlkOk X.N X.env.scope scope own) (hns : ns = own.map (·.2))
    (hg : ∀ (s : Shared) (H : Hp) (C : Addr) (cl : List (PySem.Str × Addr)) (fp : List Addr), PG (X.blk s H scope (compEnvC scope cl C X.env) fp) tg (rdG z g is))
    (ht : ∀ (s : Shared) (H : Hp) (C : Addr) (cl : List (PySem.Str × Addr)) (fp : List Addr), PTs (X.blk s H scope (compEnvC scope cl C X.env) fp) ifs (rdT z W0 cc))
    (he : ∀ (s : Shared) (H : Hp) (C : Addr) (cl : List (PySem.Str × Addr)) (fp : List Addr), PE (X.blk s H scope (compEnvC scope cl C X.env) fp) elt (rd z W0 (RE z) f))
    (hsub : ∀ i ∈ is, i ∈ ns := by decide) (hs : ∀ x, foldedSetIterable iter X.env x = pure x := by intro _; rfl) :
    PS X (.Assign [.Name x p] (.ListComp elt [⟨tg, iter, ifs, 0⟩] scope pos) spos) (rdX z W (sAsgO i (eComp it g ns cc f))) := by
  subst hns
  refine (ps_setLc F.calm hN hy hyl hsw hi ok hg ht he hs).imp fun D σ H h => ?_
  have h2 := rd_setO h
  exact rd_comp (tg := fun _ _ => none) hsub h2
/-- the same, the list given away at once -/
theorem xsetLcF [F : Fit z X] (i : Nat) {x : PySem.Str} {it : Nf.It} {g : Nf.G} {cc : T} {f : E} {is : List Nat} {elt tg iter : Expr} {ifs : List Expr} {scope : Scope} {own : List (PySem.Str × Nat)} {spos : Pos} (ns : List Nat) (hN : X.N.Nodup) (hy : X.N[i]? = some x) (hyl : X.env.scope.names.lookup x = some .local)
    (hsw : swapsWith (.ListComp elt [⟨tg, iter, ifs, 0⟩] scope pos) (some (.Name x p)) spos.line X.env = pure true)
    (hi : PI X tg iter (rdIG z W it)) (ok : BlkOk X.N X.env.scope scope own) (hns : ns = own.map (·.2))
    (hg : ∀ (s : Shared) (H : Hp) (C : Addr) (cl : List (PySem.Str × Addr)) (fp : List Addr), PG (X.blk s H scope (compEnvC scope cl C X.env) fp) tg (rdG z g is))
    (ht : ∀ (s : Shared) (H : Hp) (C : Addr) (cl : List (PySem.Str × Addr)) (fp : List Addr), PTs (X.blk s H scope (compEnvC scope cl C X.env) fp) ifs (rdT z W0 cc))
    (he : ∀ (s : Shared) (H : Hp) (C : Addr) (cl : List (PySem.Str × Addr)) (fp : List Addr), PE (X.blk s H scope (compEnvC scope cl C X.env) fp) elt (rd z W0 (RE z) f))
    (hsub : ∀ i ∈ is, i ∈ ns := by decide) (hs : ∀ x, foldedSetIterable iter X.env x = pure x := by intro _; rfl) :
    PS X (.Assign [.Name x p] (.ListComp elt [⟨tg, iter, ifs, 0⟩] scope pos) spos) (rdX z W (sAsg (Nf.gName i) (eComp it g ns cc f))) := by
  subst hns
  refine (ps_setLc F.calm hN hy hyl hsw hi ok hg ht he hs).imp fun D σ H h => ?_
  have h2 := rd_set h
  exact rd_comp (tg := fun _ _ => none) hsub (rdEN h2)
end
end Nf

namespace Nf
open PySem PySem.Spec PyProof.Rows L2
section
variable {z : Cz} {W : Wx} {X : Cx} {L L0 : Lk} {H H0 : Hp} {t t0 : Tin} {R : Rr} {pos p : Pos} {env : Env} {σ : List (Option V)} {e : Expr} {fe fi : E} {c : Expr} {ct : T} {f : Nf.S}

/-! ### loops -/
/-- what is owed at an end -/
def Owe (z : Cz) (W : Wx) (L0 : Lk) (H0 : Hp) (t0 : Tin) (L : Lk) (H : Hp) (D : Ends) : RS → Prop
  | .nx env' t' => ∀ σ' H' L', RelS z L0 H0 t0 L' env' t' σ' H' → Keep L H L' H' → D.nx σ' H'
  | .bk env' t' => ∀ σ' H' L', RelS z L0 H0 t0 L' env' t' σ' H' → Keep L H L' H' → D.bk σ' H'
  | .ct env' t' => ∀ σ' H' L', RelS z L0 H0 t0 L' env' t' σ' H' → Keep L H L' H' → D.ct σ' H'
  | .rt v t' => ∀ x H' L', Go z L0 H0 t0 L' H' t' → Rv z L' H' v x → D.rt x H'
  | .exc k t' => ∀ H' L', Go z L0 H0 t0 L' H' t' → W k H'
  | .bad => False
theorem rdX_eq {D : Ends} {σ H} : rdX z W f D σ H = ∃ L0 H0 t0 L env t, RelS z L0 H0 t0 L env t σ H ∧ Owe z W L0 H0 t0 L H D (f env t) := by
  unfold rdX
  apply propext
  constructor
  · rintro ⟨L0, H0, t0, L, env, t, r, h⟩
    refine ⟨L0, H0, t0, L, env, t, r, ?_⟩
    cases e : f env t <;> rw [e] at h <;> exact h
  · rintro ⟨L0, H0, t0, L, env, t, r, h⟩
    refine ⟨L0, H0, t0, L, env, t, r, ?_⟩
    cases e : f env t <;> rw [e] at h <;> exact h
theorem Owe.keep {L' : Lk} {H' : Hp} {D : Ends} {r : RS} (k : Keep L H L' H') (h : Owe z W L0 H0 t0 L H D r) : Owe z W L0 H0 t0 L' H' D r := by
  cases r with
  | nx e t => exact fun σ1 H1 L1 r1 k1 => h σ1 H1 L1 r1 (k.trans k1)
  | bk e t => exact fun σ1 H1 L1 r1 k1 => h σ1 H1 L1 r1 (k.trans k1)
  | ct e t => exact fun σ1 H1 L1 r1 k1 => h σ1 H1 L1 r1 (k.trans k1)
  | rt v t => exact h
  | exc k t => exact h
  | bad => exact h
theorem Owe.ends {D D' : Ends} {r : RS} (h : Owe z W L0 H0 t0 L H D r) (a : ∀ e t, r = .nx e t → D'.nx = D.nx) (b : ∀ e t, r = .bk e t → D'.bk = D.bk) (c : ∀ e t, r = .ct e t → D'.ct = D.ct) (d : D'.rt = D.rt) : Owe z W L0 H0 t0 L H D' r := by
  cases r with
  | nx e t => show ∀ σ' H' L', _ → _ → D'.nx σ' H'; rw [a e t rfl]; exact h
  | bk e t => show ∀ σ' H' L', _ → _ → D'.bk σ' H'; rw [b e t rfl]; exact h
  | ct e t => show ∀ σ' H' L', _ → _ → D'.ct σ' H'; rw [c e t rfl]; exact h
  | rt v t => show ∀ x H' L', _ → _ → D'.rt x H'; rw [d]; exact h
  | exc k t => exact h
  | bad => exact h
theorem rd_while {D : Ends} {σ H} (h : rdX z W (sWhile ct f) D σ H) : L2.tWhile (rdT z W ct) (rdX z W f) D σ H := by
  rw [rdX_eq] at h
  obtain ⟨L0, H0, t0, L, env, t, r, h⟩ := h
  unfold sWhile at h
  refine ⟨fun m σ' H' => ∃ L' env' t', RelS z L0 H0 t0 L' env' t' σ' H' ∧ Owe z W L0 H0 t0 L' H' D (whileN ct f m env' t'), ⟨fuel, L, env, t, r, h⟩, ?_⟩
  rintro m σ1 H1 ⟨L1, env1, t1, r1, h1⟩
  refine ⟨L0, H0, t0, L1, env1, t1, r1, ?_⟩
  cases m with
  | zero => exact h1.elim
  | succ m =>
    simp only [whileN] at h1
    cases e : ct env1 t1 with
    | bad => rw [e] at h1; exact h1
    | exc k t' => rw [e] at h1; exact fun H' L' g => h1 H' L' (r1.base'.trans g)
    | ok b t2 =>
      rw [e] at h1
      simp only [Res.toS_ok] at h1
      intro H2 L2' g2
      have r2 := r1.go g2
      cases b with
      | false =>
        rw [if_neg (by decide)] at h1 ⊢
        exact h1 σ1 H2 L2' r2 g2.keep
      | true =>
        rw [if_pos rfl] at h1 ⊢
        have again : ∀ (e : Env) (t3 : Tin), Owe z W L0 H0 t0 L1 H1 D (whileN ct f m e t3) → ∀ σ' H' L', RelS z L0 H0 t0 L' e t3 σ' H' → Keep L2' H2 L' H' →
            ∃ m', m' < m + 1 ∧ ∃ L' env' t', RelS z L0 H0 t0 L' env' t' σ' H' ∧ Owe z W L0 H0 t0 L' H' D (whileN ct f m' env' t') := fun e t3 ho σ' H' L' r' k' =>
          ⟨m, Nat.lt_succ_self m, L', e, t3, r', ho.keep (g2.keep.trans k')⟩
        refine ⟨fun σ' H' => ∃ m', m' < m + 1 ∧ ∃ L' env' t', RelS z L0 H0 t0 L' env' t' σ' H' ∧ Owe z W L0 H0 t0 L' H' D (whileN ct f m' env' t'), fun σ' H' h => h, ?_⟩
        rw [rdX_eq]
        refine ⟨L0, H0, t0, L2', env1, t2, r2, ?_⟩
        cases e2 : f env1 t2 with
        | bad => rw [e2] at h1; exact h1
        | exc k t' => rw [e2] at h1; exact h1
        | rt v t' => rw [e2] at h1; exact h1
        | nx e3 t3 => rw [e2] at h1; exact again e3 t3 h1
        | ct e3 t3 => rw [e2] at h1; exact again e3 t3 h1
        | bk e3 t3 => rw [e2] at h1; exact fun σ' H' L' r' k' => h1 σ' H' L' r' (g2.keep.trans k')
theorem xwhile {body : List Stmt} (hp : PassesOwn (model X.prog X.w) X.A X.env X.xe) (hc : PT X c (rdT z W ct)) (hb : PSs X body (rdX z W f)) : PS X (.While c body [] pos) (rdX z W (sWhile ct f)) := (ps_while hp hc hb).imp fun _ _ _ => rd_while
variable {it : Nf.It} {g : Nf.G} {is : List Nat}
theorem rd_for {D : Ends} {σ H} (h : rdX z W (sFor it g f) D σ H) : L2.tFor (rdI z W it) (rdG z g is) (rdX z W f) D σ H := by
  rw [rdX_eq] at h
  obtain ⟨L0, H0, t0, L, env, t, r, h⟩ := h
  refine ⟨L0, H0, t0, L, env, t, r, ?_⟩
  simp only [sFor] at h
  cases e : it env t with
  | bad => rw [e] at h; exact h
  | exc k t' => rw [e] at h; exact fun H' L' g => h H' L' (r.base'.trans g)
  | ok xs t1 =>
    rw [e] at h
    simp only [Res.toS_ok] at h
    intro J H1 L1 g1 wk
    refine ⟨fun i m σ' H' => m = xs.length - i ∧ i ≤ xs.length ∧ ∃ L' env' t', RelS z L0 H0 t0 L' env' t' σ' H' ∧ Keep L1 H1 L' H' ∧ Owe z W L0 H0 t0 L' H' D (forLoop g f (xs.drop i) env' t'), ⟨xs.length, by simp, by simp, L1, env, t1, r.go g1, .refl _ _, h.keep g1.keep⟩, ?_⟩
    rintro i m σ2 H2 ⟨hm, hi, L2', env2, t2, r2, k2, h2⟩
    have wki := wk i L2' H2 t2 r2.ok k2
    by_cases hlt : i < xs.length
    · have hx : xs[i]? = some xs[i] := List.getElem?_eq_getElem hlt
      obtain ⟨hgo, hyld⟩ := wki.1 _ hx
      rw [List.drop_eq_getElem_cons hlt] at h2
      simp only [forLoop] at h2
      refine .inr ⟨hgo, fun σ' H' => ∃ m', m' < m ∧ m' = xs.length - (i + 1) ∧ i + 1 ≤ xs.length ∧ ∃ L' env' t', RelS z L0 H0 t0 L' env' t' σ' H' ∧ Keep L1 H1 L' H' ∧ Owe z W L0 H0 t0 L' H' D (forLoop g f (xs.drop (i + 1)) env' t'), fun σ' H' h => h, fun x H3 hy => ?_⟩
      obtain ⟨L3, g3, rx⟩ := hyld x H3 hy
      refine ⟨L0, H0, t0, L3, env2, t2, xs[i], r2.go g3, rx, ?_⟩
      cases e3 : g xs[i] env2 with
      | none => rw [e3] at h2; exact h2.elim
      | some env3 =>
        rw [e3] at h2
        simp only at h2
        intro σ3 r3 _
        have again : ∀ (e : Env) (t3 : Tin), Owe z W L0 H0 t0 L2' H2 D (forLoop g f (xs.drop (i + 1)) e t3) → ∀ σ' H' L', RelS z L0 H0 t0 L' e t3 σ' H' → Keep L3 H3 L' H' →
            ∃ m', m' < m ∧ m' = xs.length - (i + 1) ∧ i + 1 ≤ xs.length ∧ ∃ L' env' t', RelS z L0 H0 t0 L' env' t' σ' H' ∧ Keep L1 H1 L' H' ∧ Owe z W L0 H0 t0 L' H' D (forLoop g f (xs.drop (i + 1)) env' t') := fun e t3 ho σ' H' L' r' k' =>
          ⟨xs.length - (i + 1), by omega, rfl, by omega, L', e, t3, r', k2.trans (g3.keep.trans k'), ho.keep (g3.keep.trans k')⟩
        rw [rdX_eq]
        refine ⟨L0, H0, t0, L3, env3, t2, r3, ?_⟩
        cases e4 : f env3 t2 with
        | bad => rw [e4] at h2; exact h2
        | exc k t' => rw [e4] at h2; exact h2
        | rt v t' => rw [e4] at h2; exact h2
        | nx e5 t5 => rw [e4] at h2; exact again e5 t5 h2
        | ct e5 t5 => rw [e4] at h2; exact again e5 t5 h2
        | bk e5 t5 => rw [e4] at h2; exact fun σ' H' L' r' k' => h2 σ' H' L' r' (g3.keep.trans k')
    · have he : xs.drop i = [] := List.drop_eq_nil_of_le (by omega)
      rw [he] at h2
      exact .inl ⟨wki.2 (by omega), h2 σ2 H2 L2' r2 (.refl _ _)⟩
theorem xfor [F : Fit z X] {tg iter : Expr} {body : List Stmt} (hp : PassesOwn (model X.prog X.w) X.A X.env X.xe) (hi : PI X tg iter (rdI z W it)) (hg : PG X tg (rdG z g is)) (hb : PSs X body (rdX z W f))
    (hs : ∀ x, foldedSetIterable iter X.env x = pure x := by intro _; rfl) : PS X (.For tg iter body [] pos) (rdX z W (sFor it g f)) := (ps_for hp F.calm hi hg hb hs).imp fun _ _ _ => rd_for

/-! ### methods, items -/
variable {apos cpos : Pos}
theorem xappend [F : Fit z X] (i : Nat) {x : PySem.Str} (hN : X.N[i]? = some x := by rfl) (hv : Vis X.env.scope x := by first | exact Or.inl rfl | exact Or.inr (Or.inl rfl) | exact Or.inr (Or.inr rfl)) (he : PE X e (rd z W (RE z) fe)) (hd : (x == ("__debug__" : PySem.Str)) = false := by decide) (hcd : (x == ("__classdict__" : PySem.Str)) = false := by decide)
    (hbase : attributeBase (.Name x p) "append" X.env (eval (.Name x p) X.env) = eval (.Name x p) X.env := by rfl)
    (hfew : ((backTo cpos (starEach [e] X.env)).all (fun x => !x.1) && (backToKw cpos (keywordEach [] X.env)).all (fun x => x.1.isSome)
      && decide ([e].length + ([] : List Keyword).length + (if ([] : List Keyword).isEmpty then 0 else 1) < 30)) = true := by rfl)
    (hline : (apos.endLine == cpos.line) = true := by rfl) (hs : starEach [e] X.env = (false, eval e X.env) :: starEach [] X.env := by rfl) (hplain : (backTo cpos (starEach [] X.env)).any (·.1) = false := by rfl)
    (hsw : swapsWith (.Call (.Attribute (.Name x p) "append" apos) [e] [] cpos) none pos.line X.env = pure false := by rfl) :
    PS X (.Expr (.Call (.Attribute (.Name x p) "append" apos) [e] [] cpos) pos) (rdX z W (sApp i fe)) := by
  refine (ps_expr (pe_bm PySem.F.plainAttrs_list PySem.F.slot_list_append PySem.F.type_list_append L2.mt_append (pe_var hN hv hd hcd) (pa_cons he pa_nil hs) hbase hfew hline hs hplain) hsw).imp fun D σ H h => ?_
  obtain ⟨L0, H0, t0, L, env, t, r, h⟩ := h
  simp only [sApp] at h
  cases e2 : Nf.ownL i env with
  | none => rw [e2] at h; exact h.elim
  | some xs =>
    rw [e2] at h
    simp only at h
    obtain ⟨a, ys, hσ, ha, ry, _⟩ := r.ownL e2
    refine ⟨_, hσ, .inl ⟨rfl, ys, .inl (.inl ha)⟩, L0, H0, t0, L, env, t, r, ?_⟩
    cases e : fe env t with
    | bad => rw [e] at h; exact h
    | exc k t' => rw [e] at h; exact fun H' L' g => h H' L' (r.base'.trans g)
    | ok v t1 =>
      rw [e] at h
      simp only [Res.toS_ok] at h
      intro y H1 L1 g1 rv
      have r1 := r.go g1
      obtain ⟨a', ys', hσ', ha', ry', up⟩ := r1.ownL e2
      rw [hσ] at hσ'; cases hσ'
      by_cases hl : xs.length < lim
      · rw [if_pos hl] at h
        obtain ⟨r2, k2⟩ := up (xs ++ [v]) (ys' ++ [y]) (Rvs.append ry' (Rvs.cons rv Rvs.nil))
        refine ⟨a, ys', y, rfl, rfl, ha', ?_, h _ _ L1 r2 (g1.keep.trans k2)⟩
        rw [ry'.len]; exact Nat.lt_of_lt_of_le hl (by decide)
      · rw [if_neg hl] at h; exact h.elim
theorem xextend [F : Fit z X] (i : Nat) {x : PySem.Str} (hN : X.N[i]? = some x := by rfl) (hv : Vis X.env.scope x := by first | exact Or.inl rfl | exact Or.inr (Or.inl rfl) | exact Or.inr (Or.inr rfl)) (he : PE X e (rd z W (RE z) fe)) (hd : (x == ("__debug__" : PySem.Str)) = false := by decide) (hcd : (x == ("__classdict__" : PySem.Str)) = false := by decide)
    (hbase : attributeBase (.Name x p) "extend" X.env (eval (.Name x p) X.env) = eval (.Name x p) X.env := by rfl)
    (hfew : ((backTo cpos (starEach [e] X.env)).all (fun x => !x.1) && (backToKw cpos (keywordEach [] X.env)).all (fun x => x.1.isSome)
      && decide ([e].length + ([] : List Keyword).length + (if ([] : List Keyword).isEmpty then 0 else 1) < 30)) = true := by rfl)
    (hline : (apos.endLine == cpos.line) = true := by rfl) (hs : starEach [e] X.env = (false, eval e X.env) :: starEach [] X.env := by rfl) (hplain : (backTo cpos (starEach [] X.env)).any (·.1) = false := by rfl)
    (hsw : swapsWith (.Call (.Attribute (.Name x p) "extend" apos) [e] [] cpos) none pos.line X.env = pure false := by rfl) :
    PS X (.Expr (.Call (.Attribute (.Name x p) "extend" apos) [e] [] cpos) pos) (rdX z W (sExt i fe)) := by
  refine (ps_expr (pe_bm PySem.F.plainAttrs_list PySem.F.slot_list_extend PySem.F.type_list_extend L2.mt_extend (pe_var hN hv hd hcd) (pa_cons he pa_nil hs) hbase hfew hline hs hplain) hsw).imp fun D σ H h => ?_
  obtain ⟨L0, H0, t0, L, env, t, r, h⟩ := h
  simp only [sExt] at h
  cases e2 : Nf.ownL i env with
  | none => rw [e2] at h; exact h.elim
  | some xs =>
    rw [e2] at h
    simp only at h
    obtain ⟨a, ys, hσ, ha, ry, _⟩ := r.ownL e2
    refine ⟨_, hσ, .inl ⟨rfl, ys, .inl (.inl ha)⟩, L0, H0, t0, L, env, t, r, ?_⟩
    cases e : fe env t with
    | bad => rw [e] at h; exact h
    | exc k t' => rw [e] at h; exact fun H' L' g => h H' L' (r.base'.trans g)
    | ok v t1 =>
      rw [e] at h
      simp only [Res.toS_ok] at h
      intro y H1 L1 g1 rv
      have r1 := r.go g1
      obtain ⟨a', ys', hσ', ha', ry', up⟩ := r1.ownL e2
      rw [hσ] at hσ'; cases hσ'
      cases v <;> simp only at h <;> first | exact h.elim | skip
      rename_i zs
      by_cases hl : xs.length + zs.length ≤ lim
      · rw [if_pos hl] at h
        simp only [RE, Rv] at rv
        obtain ⟨b, us, rfl, lb, hb, rb⟩ := rv
        obtain ⟨r2, k2⟩ := up (xs ++ zs) (ys' ++ us) (Rvs.append ry' rb)
        refine ⟨a, b, ys', us, rfl, rfl, ha', hb, ?_, h _ _ L1 r2 (g1.keep.trans k2)⟩
        rw [ry'.len, rb.len]; exact Nat.le_trans hl (by decide)
      · rw [if_neg hl] at h; exact h.elim
theorem xpop [F : Fit z X] (i : Nat) {x : PySem.Str} (hN : X.N[i]? = some x := by rfl) (hv : Vis X.env.scope x := by first | exact Or.inl rfl | exact Or.inr (Or.inl rfl) | exact Or.inr (Or.inr rfl)) (hd : (x == ("__debug__" : PySem.Str)) = false := by decide) (hcd : (x == ("__classdict__" : PySem.Str)) = false := by decide)
    (hbase : attributeBase (.Name x p) "pop" X.env (eval (.Name x p) X.env) = eval (.Name x p) X.env := by rfl) (hline : (apos.endLine == cpos.line) = true := by rfl)
    (hsw : swapsWith (.Call (.Attribute (.Name x p) "pop" apos) [] [] cpos) none pos.line X.env = pure false := by rfl) :
    PS X (.Expr (.Call (.Attribute (.Name x p) "pop" apos) [] [] cpos) pos) (rdX z W (sPop i)) := by
  refine (ps_expr (pe_bm0 PySem.F.plainAttrs_list PySem.F.slot_list_pop PySem.F.type_list_pop L2.mt_pop (pe_var hN hv hd hcd) hbase hline) hsw).imp fun D σ H h => ?_
  obtain ⟨L0, H0, t0, L, env, t, r, h⟩ := h
  simp only [sPop] at h
  cases e2 : Nf.ownL i env with
  | none => rw [e2] at h; exact h.elim
  | some xs =>
    rw [e2] at h
    simp only at h
    obtain ⟨a, ys, hσ, ha, ry, up⟩ := r.ownL e2
    refine ⟨_, hσ, .inl ⟨rfl, ys, .inl (.inl ha)⟩, ?_⟩
    by_cases hl : xs = []
    · rw [if_pos hl] at h; exact h.elim
    · rw [if_neg hl] at h
      have hlen := ry.len
      have hpos : 0 < xs.length := List.length_pos_iff.mpr hl
      have e3 : ys.dropLast = ys.take (xs.length - 1) := by rw [List.dropLast_eq_take, hlen]
      have e4 : xs.dropLast = xs.take (xs.length - 1) := by rw [List.dropLast_eq_take]
      obtain ⟨r2, k2⟩ := up xs.dropLast ys.dropLast (by rw [e3, e4]; exact Rvs.take _ ry)
      have hlt : ys.length - 1 < ys.length := by omega
      exact ⟨a, ys, ys[ys.length - 1], rfl, rfl, ha, List.getElem?_eq_getElem hlt, h _ _ L r2 k2⟩
/-- name[ix] = e -/
theorem xsetIx [F : Fit z X] (i : Nat) {x : PySem.Str} {ix : Expr} {spos : Pos} (he : PE X e (rd z W (RE z) fe)) (hi : PE X ix (rd z W (RO z) fi)) (hN : X.N[i]? = some x := by rfl) (hv : Vis X.env.scope x := by first | exact Or.inl rfl | exact Or.inr (Or.inl rfl) | exact Or.inr (Or.inr rfl)) (hd : (x == ("__debug__" : PySem.Str)) = false := by decide) (hcd : (x == ("__classdict__" : PySem.Str)) = false := by decide)
    (ha : ∀ v, assign (.Subscript (.Name x p) ix spos) X.env v = (do
      let ov ← holding [v] (eval (.Name x p) X.env)
      let iv ← holding [v, ov] (eval ix X.env)
      standAt spos
      holding [v, ov, iv] (setItem ov iv v)
      release [v, ov, iv] []) := by intro _; rfl)
    (hs : swapsWithSole [.Subscript (.Name x p) ix spos] e pos.line X.env = pure false := by rfl) (hw : swappedStores [.Subscript (.Name x p) ix spos] e X.env = pure none := by rfl)
    (h1 : (assignEach [.Subscript (.Name x p) ix spos] X.env).map (·.2) = [assign (.Subscript (.Name x p) ix spos) X.env] := by rfl) :
    PS X (.Assign [.Subscript (.Name x p) ix spos] e pos) (rdX z W (sSet i fi fe)) := by
  refine (ps_asg he (pg_sub (pe_var hN hv hd hcd) hi set_list ha) hs hw h1).imp fun D σ H h => ?_
  obtain ⟨L0, H0, t0, L, env, t, r, h⟩ := h
  refine ⟨L0, H0, t0, L, env, t, r, ?_⟩
  simp only [sSet] at h
  cases e2 : Nf.ownL i env with
  | none => rw [e2] at h; exact h.elim
  | some xs =>
    rw [e2] at h
    simp only at h
    cases e : fe env t with
    | bad => rw [e] at h; exact h
    | exc k t' => rw [e] at h; exact fun H' L' g => h H' L' (r.base'.trans g)
    | ok v t1 =>
      rw [e] at h
      simp only [Res.toS_ok] at h
      intro y H1 L1 g1 rv
      have r1 := r.go g1
      obtain ⟨a, ys, hσ, _⟩ := r1.ownL e2
      refine ⟨_, hσ, L0, H0, t0, L1, env, t1, r1, ?_⟩
      cases e3 : fi env t1 with
      | bad => rw [e3] at h; exact h
      | exc k t' => rw [e3] at h; exact fun H' L' g => h H' L' (r1.base'.trans g)
      | ok w t2 =>
        rw [e3] at h
        simp only [Res.toS_ok] at h
        intro u H2 L2' g2 ru
        have r2 := r1.go g2
        obtain ⟨a', ys', hσ', ha', ry', up⟩ := r2.ownL e2
        rw [hσ] at hσ'; cases hσ'
        cases w <;> simp only at h <;> first | exact h.elim | skip
        rename_i k
        cases ru.int
        cases e4 : ixOf xs.length k with
        | none => rw [e4] at h; exact h.elim
        | some j =>
          rw [e4] at h
          simp only at h
          obtain ⟨r3, k3⟩ := up (xs.set j v) (ys'.set j y) (Rvs.set j (Rv.keep g2.keep v rv) ry')
          exact ⟨a, ys', k, j, rfl, rfl, ha', by rw [ry'.len]; exact e4, h _ _ L2' r3 (g1.keep.trans (g2.keep.trans k3))⟩
end
end Nf

namespace Nf
open PySem PySem.Spec PyProof.Rows L2
section
variable {z : Cz} {W : Wx} {X : Cx} {L L0 : Lk} {H H0 : Hp} {t t0 : Tin} {R : Rr} {pos p : Pos} {env : Env} {σ : List (Option V)} {e : Expr} {fe fi : E} {c : Expr} {ct : T} {f : Nf.S} {es : List Expr} {fa : A}

/-! ### several names at once -/
def Rm (z : Cz) : List Bool → Lk → Hp → Lk → Hp → List Val → List V → Prop
  | [], _, _, _, _, [], ys => ys = []
  | b :: bs, L, H, L', H', v :: vs, ys => ∃ y r, ys = y :: r ∧ (if b then RN z L H L' H' v y else Rv z L' H' v y) ∧ (b = true → ∀ j : Nat, bs[j]? = some true → r[j]? ≠ some y) ∧ Rm z bs L H L' H' vs r
  | _, _, _, _, _, _, _ => False
def rdM (z : Cz) (W : Wx) (bs : List Bool) (a : A) : TA := fun σ H Q => ∃ L0 H0 t0 L env t, RelS z L0 H0 t0 L env t σ H ∧ match a env t with
  | .ok vs t' => ∀ xs H' L', Go z L H t L' H' t' → Rm z bs L H L' H' vs xs → Q xs H'
  | .exc k t' => ∀ H' L', Go z L H t L' H' t' → W k H'
  | .bad => False
theorem Rm.fresh : ∀ {bs : List Bool} {L L' : Lk} {H H' : Hp} {vs : List Val} {xs : List V} {j : Nat}, Rm z bs L H L' H' vs xs → bs[j]? = some true → ∃ a, xs[j]? = some (V.ref a) ∧ H a = none
  | [], _, _, _, _, vs, xs, j, h, e => by simp at e
  | b :: bs, _, _, _, _, [], xs, j, h, e => by simp only [Rm] at h
  | b :: bs, L, L', H, H', v :: vs, xs, j, h, e => by
    simp only [Rm] at h
    obtain ⟨y, r, rfl, h1, h2, h3⟩ := h
    cases j with
    | zero =>
      simp only [List.getElem?_cons_zero, Option.some.injEq] at e
      subst e
      rw [if_pos rfl] at h1
      obtain ⟨a, rfl, ha, _⟩ := h1
      exact ⟨a, rfl, ha⟩
    | succ j =>
      obtain ⟨a, h4, h5⟩ := Rm.fresh (j := j) h3 (by simpa using e)
      exact ⟨a, by simpa using h4, h5⟩
theorem Rm.back : ∀ {bs : List Bool} {L L1 L' : Lk} {H H1 H' : Hp} {t t1 : Tin} {vs : List Val} {xs : List V}, Go z L H t L1 H1 t1 → Rm z bs L1 H1 L' H' vs xs → Rm z bs L H L' H' vs xs
  | [], _, _, _, _, _, _, _, _, [], xs, g, h => h
  | [], _, _, _, _, _, _, _, _, _ :: _, xs, g, h => by simp only [Rm] at h
  | b :: bs, _, _, _, _, _, _, _, _, [], xs, g, h => by simp only [Rm] at h
  | b :: bs, _, _, _, _, _, _, _, _, v :: vs, xs, g, h => by
    simp only [Rm] at h ⊢
    obtain ⟨y, r, rfl, h1, h2, h3⟩ := h
    refine ⟨y, r, rfl, ?_, h2, Rm.back g h3⟩
    cases b with
    | true => rw [if_pos rfl] at h1 ⊢; exact RN.back.go g h1
    | false => rw [if_neg (by decide)] at h1 ⊢; exact h1
theorem xm_nil : PA X [] (rdM z W [] aNil) := pa_nil.imp fun σ H Q h => by
  obtain ⟨L0, H0, t0, L, env, t, r, h⟩ := h
  exact h [] H L (.refl r.ok) (by simp [Rm])
theorem xm_e {bs : List Bool} (ha : PE X e (rd z W (RE z) fe)) (hr : PA X es (rdM z W bs fa)) (hs : starEach (e :: es) X.env = (false, eval e X.env) :: starEach es X.env := by rfl) : PA X (e :: es) (rdM z W (false :: bs) (aCons fe fa)) := (pa_cons ha hr hs).imp fun σ H Q h => by
  obtain ⟨L0, H0, t0, L, env, t, r, h⟩ := h
  refine ⟨L0, H0, t0, L, env, t, r, ?_⟩
  simp only [aCons] at h
  cases e : fe env t with
  | bad => rw [e] at h; exact h
  | exc k t' => rw [e] at h; exact h
  | ok v t1 =>
    rw [e] at h
    intro x H1 L1 g1 rx
    refine ⟨L0, H0, t0, L1, env, t1, r.go g1, ?_⟩
    simp only [Res.bind_ok] at h
    cases e2 : fa env t1 with
    | bad => rw [e2] at h; exact h
    | exc k t' => rw [e2] at h; exact fun H' L' g2 => h H' L' (g1.trans g2)
    | ok vs t2 =>
      rw [e2] at h
      simp only [Res.bind_ok] at h
      intro ys H2 L2' g2 ry
      refine h (x :: ys) H2 L2' (g1.trans g2) ?_
      unfold Rm
      refine ⟨x, ys, rfl, ?_, (fun q => Bool.noConfusion q), Rm.back g1 ry⟩
      rw [if_neg (by decide)]; exact Rv.keep g2.keep v rx
theorem xm_n {bs : List Bool} (ha : PE X e (rd z W (RN z) fe)) (hr : PA X es (rdM z W bs fa)) (hs : starEach (e :: es) X.env = (false, eval e X.env) :: starEach es X.env := by rfl) : PA X (e :: es) (rdM z W (true :: bs) (aCons fe fa)) := (pa_cons ha hr hs).imp fun σ H Q h => by
  obtain ⟨L0, H0, t0, L, env, t, r, h⟩ := h
  refine ⟨L0, H0, t0, L, env, t, r, ?_⟩
  simp only [aCons] at h
  cases e : fe env t with
  | bad => rw [e] at h; exact h
  | exc k t' => rw [e] at h; exact h
  | ok v t1 =>
    rw [e] at h
    intro x H1 L1 g1 rx
    refine ⟨L0, H0, t0, L1, env, t1, r.go g1, ?_⟩
    simp only [Res.bind_ok] at h
    cases e2 : fa env t1 with
    | bad => rw [e2] at h; exact h
    | exc k t' => rw [e2] at h; exact fun H' L' g2 => h H' L' (g1.trans g2)
    | ok vs t2 =>
      rw [e2] at h
      simp only [Res.bind_ok] at h
      intro ys H2 L2' g2 ry
      refine h (x :: ys) H2 L2' (g1.trans g2) ?_
      unfold Rm
      obtain ⟨a, rfl, ha0, nl, rv⟩ := rx
      obtain ⟨o1, ha1⟩ := rv.there
      refine ⟨_, ys, rfl, ?_, fun _ j ej es => ?_, Rm.back g1 ry⟩
      · rw [if_pos rfl]
        refine ⟨a, rfl, ha0, fun l => ?_, rv.keep g2.keep fun _ h => g2.stay a _ h (g1.pre.ta_ne ha0)⟩
        rcases g2.new a l with l | l
        · exact nl l
        · rw [ha1] at l; cases l
      · obtain ⟨b, h1, h2⟩ := Rm.fresh ry ej
        rw [h1] at es; cases es
        rw [ha1] at h2; cases h2
def setAll : List (Nat × Bool) → List V → List (Option V) → List (Option V)
  | p :: ps, x :: xs, σ => (setAll ps xs σ).set p.1 (some x)
  | _, _, σ => σ
theorem getElem?_set_some {α : Type} {l : List (Option α)} {i k : Nat} {x y : α} (h : (l.set i (some x))[k]? = some (some y)) : (i = k ∧ x = y) ∨ (i ≠ k ∧ l[k]? = some (some y)) := by
  by_cases q : i = k
  · subst q
    rw [List.getElem?_set] at h
    split at h
    · split at h
      · simp at h; exact .inl ⟨rfl, h⟩
      · cases h
    · rename_i n; exact absurd rfl n
  · rw [getElem?_set_ne' q] at h; exact .inr ⟨q, h⟩
theorem putAll_ok {L' : Lk} {H' : Hp} {t' : Tin} (r : RelS z L0 H0 t0 L env t σ H) (g : Go z L H t L' H' t') : ∀ (ps : List (Nat × Bool)) (vs : List Val) (xs : List V) (env' : Env), Rm z (ps.map (·.2)) L H L' H' vs xs → putAll ps vs env = some env' →
    RelS z L0 H0 t0 L' env' t' (setAll ps xs σ) H' ∧ ∀ (k : Nat) (v : Val) (a : Addr), env'[k]? = some (some (true, v)) → (setAll ps xs σ)[k]? = some (some (V.ref a)) → (∃ o, H a = some o) ∨ ∃ j : Nat, (ps.map (·.2))[j]? = some true ∧ xs[j]? = some (V.ref a)
  | [], vs, xs, env', h, e => by
    cases vs with
    | cons _ _ => simp [putAll] at e
    | nil =>
      simp only [putAll, Option.some.injEq] at e
      subst e
      simp only [List.map_nil, Rm] at h
      subst h
      refine ⟨r.go g, fun k v a ek es => .inl ?_⟩
      obtain ⟨oa, h1, _⟩ := r.own
      obtain ⟨e1, _, _, _, o⟩ := h1 k v ek
      have es : σ[k]? = some (some (V.ref a)) := es
      rw [e1] at es; cases es
      exact o.there
  | (i, b) :: ps, [], xs, env', h, e => by simp [putAll] at e
  | (i, b) :: ps, v :: vs, xs, env', h, e => by
    simp only [List.map_cons, Rm] at h
    obtain ⟨y, us, rfl, h1, h2, h3⟩ := h
    simp only [putAll] at e
    cases e1 : putAll ps vs env with
    | none => rw [e1] at e; cases e
    | some env1 =>
      rw [e1] at e
      simp only [Option.bind_some] at e
      obtain ⟨r1, q1⟩ := putAll_ok r g ps vs us env1 h3 e1
      by_cases hl : i < env1.length
      case neg => rw [if_neg hl] at e; cases e
      rw [if_pos hl, Option.some.injEq] at e
      subst e
      simp only [setAll]
      cases b with
      | false =>
        rw [if_neg (by decide)] at h1
        refine ⟨r1.put h1 hl, fun k w a ek es => ?_⟩
        have n : i ≠ k := fun q => by subst q; rw [getElem?_set_self' hl] at ek; cases ek
        rw [getElem?_set_ne' n] at ek es
        rcases q1 k w a ek es with h | ⟨j, a1, a2⟩
        · exact .inl h
        · exact .inr ⟨j + 1, by simpa using a1, by simpa using a2⟩
      | true =>
        rw [if_pos rfl] at h1
        obtain ⟨a, rfl, ha, nl, rv⟩ := h1
        refine ⟨r1.putOwn hl rv nl (r.base'.free ha) (r.ok.ta_ne ha) fun j w ej es => ?_, fun k w a' ek es => ?_⟩
        · rcases q1 j w a ej es with ⟨o, h⟩ | ⟨j', a1, a2⟩
          · rw [ha] at h; cases h
          · exact h2 rfl j' a1 a2
        · rcases getElem?_set_some es with ⟨_, q⟩ | ⟨n, q⟩
          · cases q
            exact .inr ⟨0, by simp, by simp⟩
          · rw [getElem?_set_ne' n] at ek
            rcases q1 k w a' ek q with h | ⟨j, a1, a2⟩
            · exact .inl h
            · exact .inr ⟨j + 1, by simpa using a1, by simpa using a2⟩
theorem rd_par {ps : List (Nat × Bool)} {D : Ends} {σ H} (h : rdX z W (sPar ps fa) D σ H) : rdM z W (ps.map (·.2)) fa σ H (fun xs H1 => D.nx (setAll ps xs σ) H1 ∧ xs.length = ps.length) := by
  obtain ⟨L0, H0, t0, L, env, t, r, h⟩ := h
  refine ⟨L0, H0, t0, L, env, t, r, ?_⟩
  simp only [sPar] at h
  cases e : fa env t with
  | bad => rw [e] at h; exact h
  | exc k t' => rw [e] at h; exact fun H' L' g => h H' L' (r.base'.trans g)
  | ok vs t1 =>
    rw [e] at h
    simp only [Res.toS_ok] at h
    intro xs H1 L1 g1 rx
    cases e2 : putAll ps vs env with
    | none => rw [e2] at h; exact h.elim
    | some env' =>
      rw [e2] at h
      refine ⟨h _ H1 L1 (putAll_ok r g1 ps vs xs env' rx e2).1 g1.keep, ?_⟩
      have : ∀ (ps : List (Nat × Bool)) (vs : List Val) (xs : List V), Rm z (ps.map (·.2)) L H L1 H1 vs xs → xs.length = ps.length := by
        intro ps
        induction ps with
        | nil => intro vs xs h; cases vs <;> simp only [List.map_nil, Rm] at h; rw [h]; rfl
        | cons p ps ih =>
          intro vs xs h
          cases vs with
          | nil => simp only [List.map_cons, Rm] at h
          | cons v vs =>
            simp only [List.map_cons, Rm] at h
            obtain ⟨y, r, rfl, _, _, h3⟩ := h
            simp [ih vs r h3]
      exact this ps vs xs rx
theorem xpar2 [F : Fit z X] {i j : Nat} {x y : PySem.Str} {a b : Expr} {px py pt : Pos} {kt k2 : Nat} {pt2 : Pos} (b1 b2 : Bool) (hN : X.N.Nodup) (hi : X.N[i]? = some x) (hj : X.N[j]? = some y) (hij : i ≠ j)
    (hx : X.env.scope.names.lookup x = some .local) (hy : X.env.scope.names.lookup y = some .local) (ha : PA X [a, b] (rdM z W [b1, b2] fa))
    (hw : swappedStores [.Tuple [.Name x px, .Name y py] kt pt] (.Tuple [a, b] k2 pt2) X.env = pure (some [x, y]))
    (hs : swapsWithSole [.Tuple [.Name x px, .Name y py] kt pt] (.Tuple [a, b] k2 pt2) pos.line X.env = pure false := by rfl) :
    PS X (.Assign [.Tuple [.Name x px, .Name y py] kt pt] (.Tuple [a, b] k2 pt2) pos) (rdX z W (sPar [(i, b1), (j, b2)] fa)) := (ps_par F.calm hN hi hj hij hx hy ha hw hs).imp fun D σ H h => by
  have h2 := rd_par h
  unfold L2.tPar
  obtain ⟨L0, H0, t0, L, env, t, r, h2⟩ := h2
  refine ⟨L0, H0, t0, L, env, t, r, ?_⟩
  cases e : fa env t with
  | bad => rw [e] at h2; exact h2
  | exc k t' => rw [e] at h2; exact h2
  | ok vs t1 =>
    rw [e] at h2
    intro xs H1 L1 g1 rx
    obtain ⟨q, hl⟩ := h2 xs H1 L1 g1 rx
    match xs, hl with
    | [v, w], _ =>
      refine ⟨v, w, rfl, ?_⟩
      rw [List.set_comm _ _ hij]
      exact q
theorem xpar3 [F : Fit z X] {i j l : Nat} {x y u : PySem.Str} {a b d : Expr} {px py pu pt : Pos} {kt k2 : Nat} {pt2 : Pos} (b1 b2 b3 : Bool) (hN : X.N.Nodup) (hi : X.N[i]? = some x) (hj : X.N[j]? = some y) (hl : X.N[l]? = some u) (hij : i ≠ j) (hil : i ≠ l) (hjl : j ≠ l)
    (hx : X.env.scope.names.lookup x = some .local) (hy : X.env.scope.names.lookup y = some .local) (hu : X.env.scope.names.lookup u = some .local) (ha : PA X [a, b, d] (rdM z W [b1, b2, b3] fa))
    (hw : swappedStores [.Tuple [.Name x px, .Name y py, .Name u pu] kt pt] (.Tuple [a, b, d] k2 pt2) X.env = pure (some [x, y, u]))
    (hs : swapsWithSole [.Tuple [.Name x px, .Name y py, .Name u pu] kt pt] (.Tuple [a, b, d] k2 pt2) pos.line X.env = pure false := by rfl) :
    PS X (.Assign [.Tuple [.Name x px, .Name y py, .Name u pu] kt pt] (.Tuple [a, b, d] k2 pt2) pos) (rdX z W (sPar [(i, b1), (j, b2), (l, b3)] fa)) := (ps_par3 F.calm hN hi hj hl hij hil hjl hx hy hu ha hw hs).imp fun D σ H h => by
  have h2 := rd_par h
  unfold L2.tPar3
  obtain ⟨L0, H0, t0, L, env, t, r, h2⟩ := h2
  refine ⟨L0, H0, t0, L, env, t, r, ?_⟩
  cases e : fa env t with
  | bad => rw [e] at h2; exact h2
  | exc k t' => rw [e] at h2; exact h2
  | ok vs t1 =>
    rw [e] at h2
    intro xs H1 L1 g1 rx
    obtain ⟨q, hl⟩ := h2 xs H1 L1 g1 rx
    match xs, hl with
    | [v, w, s], _ =>
      refine ⟨v, w, s, rfl, ?_⟩
      have e3 : ((σ.set i (some v)).set j (some w)).set l (some s) = ((σ.set l (some s)).set j (some w)).set i (some v) := by
        rw [List.set_comm _ _ hij, List.set_comm _ _ hil, List.set_comm _ _ hjl]
      rw [e3]
      exact q

/-! ### the list of draws -/
theorem xtinSet [F : Fit z X] (i k : Nat) {x : PySem.Str} {j : Nat} {spos p3 : Pos} (he : PE X e (rd z W (RE z) fe)) (hN : X.N[i]? = some x := by rfl) (hv : Vis X.env.scope x := by first | exact Or.inl rfl | exact Or.inr (Or.inl rfl) | exact Or.inr (Or.inr rfl)) (hd : (x == ("__debug__" : PySem.Str)) = false := by decide) (hcd : (x == ("__classdict__" : PySem.Str)) = false := by decide)
    (ha : ∀ v, assign (.Subscript (.Name x p) (.Constant (.int k) j p3) spos) X.env v = (do
      let ov ← holding [v] (eval (.Name x p) X.env)
      let iv ← holding [v, ov] (eval (.Constant (.int k) j p3) X.env)
      standAt spos
      holding [v, ov, iv] (setItem ov iv v)
      release [v, ov, iv] []) := by intro _; rfl)
    (hs : swapsWithSole [.Subscript (.Name x p) (.Constant (.int k) j p3) spos] e pos.line X.env = pure false := by rfl) (hw : swappedStores [.Subscript (.Name x p) (.Constant (.int k) j p3) spos] e X.env = pure none := by rfl)
    (h1 : (assignEach [.Subscript (.Name x p) (.Constant (.int k) j p3) spos] X.env).map (·.2) = [assign (.Subscript (.Name x p) (.Constant (.int k) j p3) spos) X.env] := by rfl) :
    PS X (.Assign [.Subscript (.Name x p) (.Constant (.int k) j p3) spos] e pos) (rdX z W (sTin i k fe)) := by
  refine (ps_asg he (pg_sub (pe_var hN hv hd hcd) pe_int set_list ha) hs hw h1).imp fun D σ H h => ?_
  obtain ⟨L0, H0, t0, L, env, t, r, h⟩ := h
  refine ⟨L0, H0, t0, L, env, t, r, ?_⟩
  simp only [sTin] at h
  cases e : fe env t with
  | bad => rw [e] at h; exact h
  | exc k t' => rw [e] at h; exact fun H' L' g => h H' L' (r.base'.trans g)
  | ok v t1 =>
    rw [e] at h
    simp only [Res.toS_ok] at h
    intro y H1 L1 g1 rv
    have r1 := r.go g1
    rcases e2 : env[i]? with _ | (_ | ⟨b, w⟩) <;> simp only [e2] at h <;> try exact h.elim
    cases b <;> cases w <;> first | exact h.elim | skip
    cases v <;> first | exact h.elim | skip
    rename_i m
    cases (show y = .int m by simpa [RE, Rv] using rv)
    obtain ⟨w, hσw, rw'⟩ := r1.val i _ e2
    simp only [Rv] at rw'
    obtain ⟨a, hta, rfl⟩ := rw'
    obtain ⟨nl, hla⟩ := r1.ok.2 a hta
    have fin : ∀ (q : Tin), Go z L1 H1 t1 L1 (upd H1 a (.lst [.int q.a, .int q.b, .int q.c])) q := fun q => by
      refine ⟨r1.ok, ⟨fun b lb => ?_, fun b eb => ?_⟩, fun _ h => h, fun _ h => .inl h, fun b o eb n => ?_⟩
      · have n : b ≠ a := fun q => by subst q; exact nl lb
        rw [upd_ne n]; exact r1.ok.1 b lb
      · rw [hta] at eb; cases eb
        exact ⟨nl, upd_same⟩
      · have n : b ≠ a := fun q => by subst q; exact n hta
        rw [upd_ne n]; exact eb
    match k, h with
    | 0, h => exact ⟨_, hσw, a, _, 0, 0, rfl, rfl, hla, rfl, h σ _ L1 (r1.go (fin { t1 with a := m })) (g1.trans (fin { t1 with a := m })).keep⟩
    | 1, h => exact ⟨_, hσw, a, _, 1, 1, rfl, rfl, hla, rfl, h σ _ L1 (r1.go (fin { t1 with b := m })) (g1.trans (fin { t1 with b := m })).keep⟩
    | 2, h => exact ⟨_, hσw, a, _, 2, 2, rfl, rfl, hla, rfl, h σ _ L1 (r1.go (fin { t1 with c := m })) (g1.trans (fin { t1 with c := m })).keep⟩
    | n + 3, h => exact h.elim

/-! ### a def keeps its promise -/
theorem RelS.start {ta : Option Addr} {K : PySem.W.Frag} {fa : Nat → Addr} {args : List Val} {vs : List V} {N : List PySem.Str} (ok : Ok ⟨K, ta, fa⟩ L H t) (r : Rvs ⟨K, ta, fa⟩ L H args vs) (hn : args.length ≤ N.length) :
    RelS ⟨K, ta, fa⟩ L H t L (env0 N.length args) t (L2.start N vs) H := by
  have hl := r.len
  refine ⟨⟨fun _ h => h, fun _ h => .inl h, fun _ _ h _ => h, ok⟩, ok, ?_, fun i v e => ?_, fun _ => 0, fun i v e => ?_, fun i j v w e => ?_⟩
  · unfold env0 L2.start
    simp [hl]
  · unfold env0 at e
    unfold L2.start
    rcases Nat.lt_or_ge i args.length with h | h
    · rw [List.getElem?_append_left (by simpa using h)] at e
      rw [List.getElem?_append_left (by simpa [hl] using h)]
      rw [List.getElem?_map] at e ⊢
      cases q : args[i]? with
      | none => rw [q] at e; cases e
      | some u =>
        rw [q] at e
        cases e
        obtain ⟨y, hy, ry⟩ := r.get q
        exact ⟨y, by rw [hy]; rfl, ry⟩
    · rw [List.getElem?_append_right (by simpa using h)] at e
      rw [List.getElem?_replicate] at e
      split at e <;> cases e
  · unfold env0 at e
    rcases Nat.lt_or_ge i args.length with h | h
    · rw [List.getElem?_append_left (by simpa using h), List.getElem?_map] at e
      cases q : args[i]? <;> rw [q] at e <;> cases e
    · rw [List.getElem?_append_right (by simpa using h), List.getElem?_replicate] at e
      split at e <;> cases e
  · unfold env0 at e
    rcases Nat.lt_or_ge i args.length with h | h
    · rw [List.getElem?_append_left (by simpa using h), List.getElem?_map] at e
      cases q : args[i]? <;> rw [q] at e <;> cases e
    · rw [List.getElem?_append_right (by simpa using h), List.getElem?_replicate] at e
      split at e <;> cases e
end
section
variable {P : Program} {w : World} {K : PySem.W.Frag} {mg : PySem.Str → Option Value} {base : Heap} {x qual : PySem.Str} {params : Arguments} {body : List Stmt} {scope : Scope} {kws : List (PySem.Str × V)} {ad : Addr} {fd : FuncData} {N ps : List PySem.Str} {k : Nat}
/-- a def whose body reads as s -/
theorem fok (fa : Nat → Addr) (s : Nf.S) (F : FunD K x qual params body scope [] kws ad fd) (S : FnScope N ps scope) (hps : ps.length ≤ N.length)
    (hb : ∀ (cdv : Value) (A : Around) (outer : List PySem.Env) (s0 : Shared) (H : Hp) (E : XK) (ta : Option Addr), Room k (A.deeper (envOfC qual scope s0.heap.objs.size ad cdv)) → Fit ⟨K, ta, fa⟩ (cxOf CX0 P w K mg base N qual scope ad cdv A outer s0 H E).nox → PSs (cxOf CX0 P w K mg base N qual scope ad cdv A outer s0 H E).nox body (rdX ⟨K, ta, fa⟩ W0 s)) :
    FnOk P w K mg base CX0 (k + 1) ad fd ps (spOf K fa (runDef ps.length N.length s)) := by
  refine F.ok S (fun vs H Q E h => ?_) (fun cdv A outer s0 H vs Q E hr h => ?_)
  · obtain ⟨ta, L, args, t, ok, r, h⟩ := h
    rw [r.len]
    unfold runDef at h
    by_cases q : args.length = ps.length
    · exact q
    · rw [if_neg q] at h; exact h.elim
  · obtain ⟨ta, L, args, t, ok, r, h⟩ := h
    refine ⟨_, PSs.nox (hb cdv A outer s0 H E ta hr ⟨rfl, rfl, by have := hr.un; show (A.deeper (envOfC qual scope s0.heap.objs.size ad cdv)).units + 70 < _; omega⟩), ?_⟩
    unfold runDef at h
    by_cases q : args.length = ps.length
    case neg => rw [if_neg q] at h; exact h.elim
    rw [if_pos q] at h
    have r0 := RelS.start (N := N) ok r (by rw [q]; exact hps)
    refine ⟨L, H, t, L, _, t, r0, ?_⟩
    cases e : s (env0 N.length args) t with
    | bad => rw [e] at h; exact h
    | exc k t' => rw [e] at h; exact h.elim
    | bk e' t' => rw [e] at h; exact h.elim
    | ct e' t' => rw [e] at h; exact h.elim
    | rt v t' => rw [e] at h; exact fun x H' L' g rv => h x H' L' g rv
    | nx e' t' => rw [e] at h; exact fun σ' H' L' r' _ => h .non H' L' r'.base' (by simp [Rv])
end
end Nf

namespace Nf
open PySem PySem.Spec PyProof.Rows L2
section
variable {z : Cz} {W : Wx} {X : Cx} {L L0 : Lk} {H H0 : Hp} {t t0 : Tin} {R : Rr} {pos p : Pos} {env : Env} {σ : List (Option V)} {e : Expr} {f g h : E} {a b c : Expr}
theorem os_isB : OpR X (compareOp .Is) (rdOp z (RE z) cIsB) := by
  intro pins s σ H x y v u Q I rx ry h
  obtain ⟨L, v', w', t, r, ok, hv, hw, e, q⟩ := h
  cases v' <;> cases w' <;> simp only [cIsB, reduceCtorEq, Option.some.injEq] at e
  subst e
  exact op_isBl pins s σ H x y v u Q I rx ry ⟨_, _, hv.bl, hw.bl, q _ H L (.refl ok) (by simp [RE, Rv])⟩
theorem os_notB : OpR X (compareOp .IsNot) (rdOp z (RE z) cNotB) := by
  intro pins s σ H x y v u Q I rx ry h
  obtain ⟨L, v', w', t, r, ok, hv, hw, e, q⟩ := h
  cases v' <;> cases w' <;> simp only [cNotB, reduceCtorEq, Option.some.injEq] at e
  subst e
  exact op_notBl pins s σ H x y v u Q I rx ry ⟨_, _, hv.bl, hw.bl, q _ H L (.refl ok) (by simp [RE, Rv])⟩
theorem os_isnotN : OpR X (compareOp .IsNot) (rdOp z (RE z) oNotN) := by
  intro pins s σ H x y v u Q I rx ry h
  obtain ⟨L, v', w', t, r, ok, hv, hw, e, q⟩ := h
  cases w' <;> simp only [oNotN, reduceCtorEq] at e
  simp only [cNotN, Option.some.injEq] at e; subst e
  refine op_notN pins s σ H x y v u Q I rx ry ⟨hw.non, ?_⟩
  have hb : decide (x = V.non) = v'.isNon := by
    cases v' <;> simp only [Val.isNon]
    · cases hv.non; exact decide_eq_true rfl
    · cases hv.bl; exact decide_eq_false (fun z => nomatch z)
    · cases hv.int; exact decide_eq_false (fun z => nomatch z)
    · cases hv.str; exact decide_eq_false (fun z => nomatch z)
    · obtain ⟨a, _, rfl, _⟩ := hv.tup; exact decide_eq_false (fun z => nomatch z)
    · obtain ⟨a, _, rfl, _⟩ := hv.lst; exact decide_eq_false (fun z => nomatch z)
    · rcases hv with h | ⟨_, _, _, h⟩
      · simp only [Rv] at h
      · exact h.elim
    · obtain ⟨a, _, rfl, _⟩ := hv.dct; exact decide_eq_false (fun z => nomatch z)
    · rcases hv with h | ⟨_, _, _, h⟩
      · simp only [Rv] at h; obtain ⟨a, _, rfl⟩ := h; exact decide_eq_false (fun z => nomatch z)
      · exact h.elim
    · rcases hv with h | ⟨_, _, _, h⟩
      · simp only [Rv] at h; subst h; exact decide_eq_false (fun z => nomatch z)
      · exact h.elim
    · rcases hv with h | ⟨_, _, _, h⟩
      · simp only [Rv] at h; obtain ⟨a, rfl, _⟩ := h; exact decide_eq_false (fun z => nomatch z)
      · exact h.elim
  rw [hb]
  exact q _ H L (.refl ok) (by simp [RE, Rv])
theorem os_addL [F : Fit z X] : OpR X (binaryOp .Add) (rdOp z (RN z) oAddL) := by
  intro pins s σ H x y v u Q I rx ry h
  obtain ⟨L, v', w', t, r, ok, hv, hw, e, q⟩ := h
  cases v' <;> cases w' <;> simp only [oAddL, reduceCtorEq] at e
  rename_i xs ys
  split at e
  · rename_i hl
    simp only [Option.some.injEq] at e; subst e
    obtain ⟨a, us, rfl, h1, r1⟩ := hv.lst
    obtain ⟨b, ws, rfl, h2, r2⟩ := hw.lst
    exact op_cat pins s σ H _ _ v u Q I rx ry ⟨a, b, us, ws, rfl, rfl, h1, h2, by rw [r1.len, r2.len]; exact le_line hl, fun p hp => newN ok (r1.append r2) q hp⟩
  · cases e
theorem os_mulL [F : Fit z X] : OpR X (binaryOp .Mult) (rdOp z (RN z) oMulL) := by
  intro pins s σ H x y v u Q I rx ry h
  obtain ⟨L, v', w', t, r, ok, hv, hw, e, q⟩ := h
  cases v' <;> cases w' <;> simp only [oMulL, reduceCtorEq] at e
  rename_i xs k
  split at e
  · rename_i hb
    obtain ⟨h1, h2, h3⟩ := hb
    simp only [Option.some.injEq] at e; subst e
    obtain ⟨a, us, rfl, ha, r1⟩ := hv.lst
    refine op_rep pins s σ H _ _ v u Q I rx ry ⟨a, k, us, rfl, hw.int, ha, by omega, by omega, ?_, fun p hp => newN ok (r1.flat k.toNat) q hp⟩
    rw [r1.len]
    have : xs.length * k.toNat ≤ 1000 * 1000 := Nat.mul_le_mul h3 (by omega)
    exact Nat.le_trans this (by decide)
  · cases e
theorem xoneN {op : BoolOp} (h : PE X a (rd z W R f)) : PE X (.BoolOp op [a] pos) (rd z W R f) := pe_one h
variable {rest : List Expr}
theorem xorN [F : Fit z X] (ha : PE X a (rd z W (RN z) f)) (hb : PE X (.BoolOp .Or (b :: rest) pos) (rd z W (RN z) g)) : PE X (.BoolOp .Or (a :: b :: rest) pos) (rd z W (RN z) (eOr f g)) := by
  refine (pe_orT ha hb).imp fun σ H Q h => ?_
  obtain ⟨L0, H0, t0, L, env, t, r, h⟩ := h
  refine ⟨L0, H0, t0, L, env, t, r, ?_⟩
  simp only [eOr] at h
  cases e : f env t with
  | bad => rw [e] at h; exact h
  | exc k t' => rw [e] at h; exact h
  | ok v t1 =>
    rw [e] at h
    simp only [Res.bind_ok] at h
    intro x H1 L1 g1 rx
    cases e2 : tru v with
    | none => rw [e2] at h; exact h.elim
    | some k =>
      rw [e2] at h
      have ro : RO z L1 H1 L1 H1 v x := by
        obtain ⟨a, rfl, h1, _, o⟩ := rx
        exact .inr ⟨a, rfl, g1.pre.ta_ne h1, o⟩
      refine ⟨k, tru_of (z := z) (L := L1) ro e2, ?_⟩
      cases k with
      | true =>
        simp only [if_true] at h ⊢
        exact h x H1 L1 g1 rx
      | false =>
        simp only [Bool.false_eq_true, if_false] at h ⊢
        refine ⟨L0, H0, t0, L1, env, t1, r.go g1, ?_⟩
        cases e3 : g env t1 with
        | bad => rw [e3] at h; exact h
        | exc k t' => rw [e3] at h; exact fun H' L' g2 => h H' L' (g1.trans g2)
        | ok v t2 => rw [e3] at h; exact fun x H' L' g2 rx => h x H' L' (g1.trans g2) (RN.back.go g1 rx)
/-- a call whose value is dropped -/
theorem xdrop (he : PE X e (rd z W (RE z) f)) (hs : swapsWith e none pos.line X.env = pure false := by rfl) : PS X (.Expr e pos) (rdX z W (sDrop f)) := (ps_expr he hs).imp fun D σ H h => by
  obtain ⟨L0, H0, t0, L, env, t, r, h⟩ := h
  refine ⟨L0, H0, t0, L, env, t, r, ?_⟩
  simp only [sDrop] at h
  cases e : f env t with
  | bad => rw [e] at h; exact h
  | exc k t' => rw [e] at h; exact fun H' L' g => h H' L' (r.base'.trans g)
  | ok v t1 =>
    rw [e] at h
    exact fun x H1 L1 g1 rx => h σ H1 L1 (r.go g1) g1.keep
/-! ### a op b op' c -/
theorem rd_chain {o o' : Val → Val → Option Val} {σ H Q} (hh : rd z W (RE z) (eChain o o' f g h) σ H Q) : tChain (rdOp z (RE z) o) (rdOp z (RE z) o') (rd z W (RO z) f) (rd z W (RO z) g) (rd z W (RO z) h) σ H Q := by
  obtain ⟨L0, H0, t0, L, env, t, r, hh⟩ := hh
  refine ⟨L0, H0, t0, L, env, t, r, ?_⟩
  simp only [eChain] at hh
  cases e : f env t with
  | bad => rw [e] at hh; exact hh
  | exc k t' => rw [e] at hh; exact hh
  | ok v t1 =>
    rw [e] at hh
    simp only [Res.bind_ok] at hh
    intro x H1 L1 g1 rx
    refine ⟨L0, H0, t0, L1, env, t1, r.go g1, ?_⟩
    cases e2 : g env t1 with
    | bad => rw [e2] at hh; exact hh
    | exc k t' => rw [e2] at hh; exact fun H' L' g2 => hh H' L' (g1.trans g2)
    | ok w t2 =>
      rw [e2] at hh
      simp only [Res.bind_ok] at hh
      intro y H2 L2' g2 ry
      cases e3 : o v w with
      | none => rw [e3] at hh; exact hh.elim
      | some q =>
        rw [e3] at hh
        refine ⟨L2', v, w, t2, q, g2.ok, RO.go g2 rx, ry, e3, fun u H3 L3 g3 ru => ?_⟩
        cases q <;> first | exact hh.elim | skip
        rename_i k
        refine ⟨k, by simpa [RE, Rv] using ru, ?_⟩
        have g13 := g1.trans (g2.trans g3)
        cases k with
        | false =>
          rw [if_neg (by decide)]
          exact hh (.bl false) H3 L3 g13 (by simp [RE, Rv])
        | true =>
          rw [if_pos rfl]
          refine ⟨L0, H0, t0, L3, env, t2, r.go g13, ?_⟩
          cases e4 : h env t2 with
          | bad => rw [e4] at hh; exact hh
          | exc k t' => rw [e4] at hh; exact fun H' L' g4 => hh H' L' (g13.trans g4)
          | ok u' t4 =>
            rw [e4] at hh
            simp only [Res.bind_ok] at hh
            intro y4 H4 L4 g4 ry4
            cases e5 : o' w u' with
            | none => rw [e5] at hh; exact hh.elim
            | some q =>
              rw [e5] at hh
              exact ⟨L4, w, u', t4, q, g4.ok, RO.go (g3.trans g4) ry, ry4, e5, fun u5 H5 L5 g5 ru5 => hh u5 H5 L5 (g13.trans (g4.trans g5)) ru5⟩
theorem xchain {op op' : CmpOp} {o o' : Val → Val → Option Val} (ho : OpR X (compareOp op) (rdOp z (RE z) o)) (ho' : OpR X (compareOp op') (rdOp z (RE z) o')) (ha : PE X a (rd z W (RO z) f)) (hb : PE X b (rd z W (RO z) g)) (hc : PE X c (rd z W (RO z) h))
    (hm : lastMarks [op, op'] [b, c] = false := by with_unfolding_all rfl) : PE X (.Compare a [op, op'] [b, c] pos) (rd z W (RE z) (eChain o o' f g h)) := (pe_chain ho ho' ha hb hc hm).imp fun _ _ _ => rd_chain
theorem xt_chain {op op' : CmpOp} {o o' : Val → Val → Option Val} (ho : OpR X (compareOp op) (rdOp z (RE z) o)) (ho' : OpR X (compareOp op') (rdOp z (RE z) o')) (ha : PE X a (rd z W (RO z) f)) (hb : PE X b (rd z W (RO z) g)) (hc : PE X c (rd z W (RO z) h))
    (hm : lastMarks [op, op'] [b, c] = false := by with_unfolding_all rfl) : PT X (.Compare a [op, op'] [b, c] pos) (rdT z W (tBl (eChain o o' f g h))) := (pt_chain ho ho' ha hb hc hm).imp fun σ H Q hh => by
  refine rd_chain ?_
  obtain ⟨L0, H0, t0, L, env, t, r, hh⟩ := hh
  refine ⟨L0, H0, t0, L, env, t, r, ?_⟩
  simp only [tBl] at hh
  cases e : eChain o o' f g h env t with
  | bad => rw [e] at hh; exact hh
  | exc k t' => rw [e] at hh; exact hh
  | ok v t1 =>
    rw [e] at hh
    simp only [Res.bind_ok] at hh
    intro x H1 L1 g1 rx
    cases v <;> simp only at hh <;> first | exact hh.elim | skip
    rename_i k
    exact ⟨k, by simpa [RE, Rv] using rx, hh H1 L1 g1⟩
end
end Nf

namespace Nf
open PySem PySem.Spec PyProof.Rows L2
/-! ### the law's def -/
/-- tin = e; rest -/
def lawRun (fe : E) (s : Nf.S) (N : Nat) (ns : List Int) : Prop := ∃ a b c t v t', fe (env0 N [.scr ns]) ⟨0, 0, 0⟩ = .ok (.lst [.int a, .int b, .int c]) t ∧ s ((env0 N []).set 1 (some (false, .tin))) ⟨a, b, c⟩ = .rt v t' ∧ v = .bl true
def spLaw (K : PySem.W.Frag) (p : List Int → Prop) : Sp := fun vs H Q _ => ∃ a ns, vs = [.ref a] ∧ SqL K H a (ns.map V.int) ∧ Only H ∧ p ns ∧ ∀ H', Q (.bl true) H'
theorem PSs.ex {X : Cx} {sts : List Stmt} {α : Type} {u : α → TS} (h : ∀ a, PSs X sts (u a)) : PSs X sts (fun D σ H => ∃ a, u a D σ H) := ⟨fun pins s σ H D I ⟨a, q⟩ => (h a).run pins s σ H D I q⟩
section
variable {P : Program} {w : World} {K : PySem.W.Frag} {mg : PySem.Str → Option Value} {base : Heap} {x qual : PySem.Str} {params : Arguments} {tg e : Expr} {st : Stmt} {rest : List Stmt} {scope : Scope} {kws : List (PySem.Str × V)} {ad : Addr} {fd : FuncData} {N : List PySem.Str} {k : Nat} {y : PySem.Str} {pos p : Pos}
theorem fokLaw (fa : Nat → Addr) (fe : E) (s : Nf.S) (F : FunD K x qual params (.Assign [.Name y p] e pos :: rest) scope [] kws ad fd) (S : FnScope N ["script"] scope) (hN : 2 ≤ N.length)
    (hb : ∀ (cdv : Value) (A : Around) (outer : List PySem.Env) (s0 : Shared) (H : Hp) (E : XK), Room k (A.deeper (envOfC qual scope s0.heap.objs.size ad cdv)) → (∀ ta, Fit ⟨K, ta, fa⟩ (cxOf CX0 P w K mg base N qual scope ad cdv A outer s0 H E).nox) →
      ∃ te, PS (cxOf CX0 P w K mg base N qual scope ad cdv A outer s0 H E).nox (.Assign [.Name y p] e pos) (tAsg te (L2.gName 1)) ∧ (∀ σ H Q, rd ⟨K, none, fa⟩ W0 (RE ⟨K, none, fa⟩) fe σ H Q → te σ H Q) ∧
      ∀ ta, PSs (cxOf CX0 P w K mg base N qual scope ad cdv A outer s0 H E).nox rest (rdX ⟨K, ta, fa⟩ W0 s)) :
    FnOk P w K mg base CX0 (k + 1) ad fd ["script"] (spLaw K (lawRun fe s N.length)) := by
  refine F.ok S (fun vs H Q E h => ?_) (fun cdv A outer s0 H vs Q E hr h => ?_)
  · obtain ⟨a, ns, rfl, _⟩ := h; rfl
  · obtain ⟨a, ns, rfl, hs, ho, hp, hQ⟩ := h
    obtain ⟨te, h1, h2, h3⟩ := hb cdv A outer s0 H E hr fun ta => ⟨rfl, rfl, by have := hr.un; show (A.deeper (envOfC qual scope s0.heap.objs.size ad cdv)).units + 70 < _; omega⟩
    refine ⟨_, PSs.nox (pss_cons h1 (PSs.ex h3)), ?_⟩
    obtain ⟨i, j, l, t, v, t', e1, e2, rfl⟩ := hp
    have ok : Ok ⟨K, none, fa⟩ (fun _ => False) H ⟨0, 0, 0⟩ := ⟨fun _ h => h.elim, fun _ h => by cases h⟩
    have rs : Rvs ⟨K, none, fa⟩ (fun _ => False) H [.scr ns] [.ref a] := by
      refine Rvs.cons ?_ Rvs.nil
      simp only [Rv]
      refine ⟨a, rfl, ?_⟩
      rcases hs with (hs | hs) | hs
      · rcases ho a with h | ⟨_, _, h⟩
        · rw [h] at hs; cases hs
        · rw [h] at hs; cases hs
      · exact .inl hs
      · exact .inr (.inr hs)
    have r0 := RelS.start (N := N) ok rs (by show 1 ≤ N.length; omega)
    refine h2 _ _ _ ⟨_, _, _, _, _, _, r0, ?_⟩
    rw [e1]
    intro x1 H1 L1 g1 rx
    simp only [RE, Rv] at rx
    obtain ⟨b, ys, rfl, lb, hb1, ry⟩ := rx
    have ey : ys = [.int i, .int j, .int l] := ry.intsOf (ns := [i, j, l]) rfl
    subst ey
    refine ⟨some b, ?_⟩
    have ok2 : Ok ⟨K, some b, fa⟩ (fun _ => False) H1 ⟨i, j, l⟩ := ⟨fun _ h => h.elim, fun c h => by cases h; exact ⟨fun h => h, hb1⟩⟩
    refine ⟨fun _ => False, H1, ⟨i, j, l⟩, fun _ => False, (env0 N.length []).set 1 (some (false, .tin)), ⟨i, j, l⟩, ?_, ?_⟩
    · refine ⟨⟨fun _ h => h, fun _ h => .inl h, fun _ _ h _ => h, ok2⟩, ok2, ?_, fun q u eq => ?_, fun _ => 0, fun q u eq => ?_, fun q q2 u u2 eq => ?_⟩
      · unfold env0 L2.start; simp; omega
      · by_cases c : 1 = q
        · subst c
          rw [getElem?_set_self' (by unfold env0; simp; omega)] at eq
          cases eq
          refine ⟨.ref b, getElem?_set_self' (by unfold L2.start; simp; omega), ?_⟩
          simp only [Rv]
          exact ⟨b, rfl, rfl⟩
        · rw [getElem?_set_ne' c] at eq
          unfold env0 at eq
          simp only [List.map_nil, List.nil_append, List.getElem?_replicate] at eq
          split at eq <;> cases eq
      · by_cases c : 1 = q
        · subst c
          rw [getElem?_set_self' (by unfold env0; simp; omega)] at eq
          cases eq
        · rw [getElem?_set_ne' c] at eq
          unfold env0 at eq
          simp only [List.map_nil, List.nil_append, List.getElem?_replicate] at eq
          split at eq <;> cases eq
      · by_cases c : 1 = q
        · subst c
          rw [getElem?_set_self' (by unfold env0; simp; omega)] at eq
          cases eq
        · rw [getElem?_set_ne' c] at eq
          unfold env0 at eq
          simp only [List.map_nil, List.nil_append, List.getElem?_replicate] at eq
          split at eq <;> cases eq
    · rw [e2]
      intro x2 H2 L2' g2 rv
      cases (show x2 = .bl true by simpa [Rv] using rv)
      exact hQ H2
end
/-! ### the hook: defs, names, tuples of the module -/
def tuOk (tu : List (PySem.Str × List He.Dv)) (K : PySem.W.Frag) : Bool := tu.all fun p => He.tupB K p.1 p.2
abbrev AlU : Type := He.AlD × Bool
def obsU (fa : List He.Fa) (fn : List He.DefD) (tu : List (PySem.Str × List He.Dv)) (K : PySem.W.Frag) : AlU := (He.obsD fa fn K, tuOk tu K)
def SaysU (fa : List He.Fa) (fn : List He.DefD) (tu : List (PySem.Str × List He.Dv)) (K : PySem.W.Frag) : Prop := obsU fa fn tu K = (He.valD fn, true)
def obsUG (n : Nat) (fa : List He.Fa) (fn : List He.DefD) (tu : List (PySem.Str × List He.Dv)) (g : Addr → Option Obj) : AlU := obsU fa fn tu (He.frG g (He.asD g n))
def hookU (n : Nat) (fa : List He.Fa) (fn : List He.DefD) (tu : List (PySem.Str × List He.Dv)) : PySem.W.Hook where
  α := AlU
  obs := fun s => obsUG n fa fn tu s.heap.get?
  val := fun _ => (He.valD fn, true)
  says := fun _ h => ∃ K : PySem.W.Frag, K.In h ∧ SaysU fa fn tu K
  of := fun _ _ e => ⟨_, He.frG_in, e⟩
  keeps := fun _ _ _ ⟨K, hK, c⟩ k => ⟨K, PySem.W.Frag.In.keeps hK k, c⟩
theorem obsUG_eq {n : Nat} {fa : List He.Fa} {fn : List He.DefD} {tu : List (PySem.Str × List He.Dv)} {g : Addr → Option Obj} {s : Shared} (h : ∀ a, g a = s.heap.get? a) : obsUG n fa fn tu g = (hookU n fa fn tu).obs s := by
  have e : g = s.heap.get? := funext h
  rw [e] <;> rfl
section
variable {fa : List He.Fa} {fn : List He.DefD} {tu : List (PySem.Str × List He.Dv)} {K : PySem.W.Frag}
theorem SaysU.d (c : SaysU fa fn tu K) : He.SaysD fa fn K := congrArg (fun z : AlU => z.1) c
theorem SaysU.t (c : SaysU fa fn tu K) : tuOk tu K = true := congrArg (fun z : AlU => z.2) c
end
/-- a function's data -/
def fdOf (K : PySem.W.Frag) (ad : Addr) : FuncData := match K.lookup ad with
  | some ⟨_, _, .func fd, _⟩ => fd
  | _ => PySem.W.fnOf "" "" ⟨[], [], none, [], [], none, []⟩ [] ⟨.function, [], false, false, []⟩ .none .none .none .none none .none .none
theorem fun_fdOf {K : PySem.W.Frag} {x qual : PySem.Str} {params : Arguments} {body : List Stmt} {scope : Scope} {dvs : List V} {kws : List (PySem.Str × V)} {ad : Addr} {fd : FuncData} (F : FunD K x qual params body scope dvs kws ad fd) : FunD K x qual params body scope dvs kws ad (fdOf K ad) := by
  have e : fdOf K ad = fd := by
    obtain ⟨oc, od, dV, kV, doc, pm, an, cdv, ct, osl, _, lk, _⟩ := F.ex
    unfold fdOf
    rw [lk]
  rw [e]; exact F
/-- what a law's defs lean on -/
structure Cn (fa : List He.Fa) (fn : List He.DefD) (tu : List (PySem.Str × List He.Dv)) (K : PySem.W.Frag) (mg : PySem.Str → Option Value) : Prop where
  s : SaysU fa fn tu K
  h : ∃ hp : Heap, K.In hp ∧ hp.Ns mainGlobals mg
section
variable {fa : List He.Fa} {fn : List He.DefD} {tu : List (PySem.Str × List He.Dv)} {K : PySem.W.Frag} {mg : PySem.Str → Option Value}
theorem Cn.f (c : Cn fa fn tu K mg) (i : Nat) {d : He.DefD} (h : fn[i]? = some d) : FunD K d.name d.qual d.params d.body d.scope (d.dvs K) (d.kws K) (He.fAd K d.at_) (fdOf K (He.fAd K d.at_)) := by
  obtain ⟨fd, F⟩ := c.s.d.def_ i h
  exact fun_fdOf F
theorem Cn.g (c : Cn fa fn tu K mg) (i : Nat) {x : PySem.Str} (h : fa[i]? = some (.glo x)) : mg x = some (.ref (He.ga K x)) := by
  obtain ⟨hp, X, G⟩ := c.h
  exact He.glo_ok X G (c.s.d.fact i h)
theorem Cn.b (c : Cn fa fn tu K mg) (i : Nat) {x : PySem.Str} (h : fa[i]? = some (.free x)) : mg x = none := by
  obtain ⟨hp, X, G⟩ := c.h
  exact He.free_ok X G (c.s.d.fact i h)
theorem Cn.i (c : Cn fa fn tu K mg) (i : Nat) {x : PySem.Str} {n : Int} (h : fa[i]? = some (.int x n)) : ∃ t, mg x = some (.int n t) := by
  obtain ⟨hp, X, G⟩ := c.h
  exact He.int_ok X G (c.s.d.fact i h)
/-- a module's number -/
theorem xgi {z : Cz} {W : Wx} {X : Cx} {x : PySem.Str} {n : Int} {pos : Pos} (c : Cn fa fn tu K mg) (i : Nat) (h : fa[i]? = some (.int x n)) (hmg : X.mg = mg) (hg : Gl X x) (hd : (x == ("__debug__" : PySem.Str)) = false := by decide) : PE X (.Name x pos) (rd z W (RE z) (eC (.int n))) := by
  obtain ⟨t, e⟩ := c.i i h
  exact xg (y := V.int n) hg (by rw [hmg]; exact e) ⟨t, rfl⟩ (fun _ _ => by simp [Rv]) hd
/-- a module's tuple of numbers -/
theorem xgt {z : Cz} {W : Wx} {X : Cx} {x : PySem.Str} {ns : List Int} {pos : Pos} (c : Cn fa fn tu K mg) (i j : Nat) (h : fa[i]? = some (.glo x)) (h2 : tu[j]? = some (x, ns.map He.Dv.int)) (hmg : X.mg = mg) (hK : z.K = K) (hg : Gl X x) (hd : (x == ("__debug__" : PySem.Str)) = false := by decide) : PE X (.Name x pos) (rd z W (RE z) (eC (.tup (ns.map Val.int)))) := by
  refine xg (y := V.ref (He.ga K x)) hg (by rw [hmg]; exact c.g i h) rfl (fun L H => ?_) hd
  have := List.all_eq_true.mp c.s.t _ (List.mem_of_getElem? h2)
  have q := He.tupB_ok this H
  simp only [Rv]
  refine ⟨_, ns.map V.int, rfl, ?_, Rvs.ofInts ns⟩
  rw [hK]
  have e : (ns.map He.Dv.int).map (He.Dv.v K) = ns.map V.int := by
    rw [List.map_map]; rfl
  rw [← e]; exact q
theorem walk_ofEB {l : PySem.W.OpenLaw} {n k : Nat} {q : Program} {loose : List PySem.Str} {XP : (PySem.Str → Option Value) → Heap → Prop} {YP : World → Heap → Prop} {d : DefRec} {CX : CXT} {x : PySem.Str}
    (hn : l.most = some n) (hn2 : n ≤ sizeLine) (hdf : d.params.defaults = []) (hr : Room k callerA)
    (F : ∀ (w : World) (mg : PySem.Str → Option Value) (fa : Addr) (h : Heap), YP w h → h.Ns mainGlobals mg → mg d.name = some (.ref fa) →
      ∃ (K : PySem.W.Frag) (fd : FuncData) (sp : Sp), K.In h ∧ (∀ (s : Shared) (u : Value), BindsTo s fd ⟨[u], []⟩ [(x, u)]) ∧
        (∀ (H : Hp) (a : Addr) (ns : List Int), ns.length ≤ n → (∀ z ∈ ns, Builtin.Int.intBits z ≤ 1048576) → Only H → SqL K H a (ns.map V.int) → sp [.ref a] H (fun v _ => v = .bl true) fun _ _ _ => False) ∧
        ∀ base : Heap, K.In base → base.Ns mainGlobals mg → FnOk l.prog w K mg base CX k fa fd [x] sp)
    (hCX : ∀ (H : Hp) (s : Shared) (e : Value) (s' : Shared), CX [] H s (fun _ _ _ => False) e s' → False) :
    PySem.W.WalkO q loose XP YP l.row.toRowW d [] (fun f vs => PySem.call f vs) := by
  refine Att.attach_callB hn hdf fun w s₀ s₁ mg mb fa o pm cd doc a vs ns G Y ho hd hcd hmg hobj hints hlen hbits hg => ?_
  obtain ⟨K, fd, sp, KX, hb, hsp, hF⟩ := F w mg fa _ Y G.T.g hmg
  exact law_call KX G.T.g G.T.b G.T.builtins G.T.nolimit hg hobj hints (Nat.le_trans hlen hn2) hr hF hb (fun H hO hS => hsp H a ns hlen hbits hO hS) fun H e s' => hCX H s₁ e s'
/-- callees by their codes -/
def gam : List (Nat × (List Val → M Val)) → Gam
  | [], _ => fun _ _ => .bad
  | p :: r, k => if k = p.1 then p.2 else gam r k
end
end Nf

namespace Nf

theorem two_step {b r s : Int} (hr : 0 < r) (hs : s = b.fmod r) (h : r ≤ b) : s * 2 < b ∧ 0 ≤ s := by
  have h1 : b.fmod r = b % r := Int.fmod_eq_emod_of_nonneg b (Int.le_of_lt hr)
  rw [h1] at hs
  have h2 := Int.emod_nonneg b (Int.ne_of_gt hr)
  have h3 := Int.emod_lt_of_pos b hr
  have h4 := Int.emod_add_mul_ediv b r
  have h5 : 1 ≤ b / r := by
    rw [Int.le_ediv_iff_mul_le hr]; omega
  have h6 : r * 1 ≤ r * (b / r) := Int.mul_le_mul_of_nonneg_left h5 (Int.le_of_lt hr)
  subst hs
  constructor <;> omega
theorem gcd_step (a b : Int) (hb : 0 < b) : Int.gcd b (a.fmod b) = Int.gcd a b := by
  rw [Int.fmod_eq_emod_of_nonneg a (Int.le_of_lt hb)]
  have h := Int.emod_add_mul_ediv a b
  refine Nat.dvd_antisymm ?_ ?_
  · refine Int.dvd_gcd ?_ (Int.gcd_dvd_left _ _)
    conv => rhs; rw [← h]
    exact Int.dvd_add (Int.gcd_dvd_right _ _) (Int.dvd_mul_of_dvd_left (Int.gcd_dvd_left _ _))
  · refine Int.dvd_gcd (Int.gcd_dvd_right _ _) ?_
    have : a % b = a - b * (a / b) := by omega
    rw [this]
    exact Int.dvd_sub (Int.gcd_dvd_left _ _) (Int.dvd_mul_of_dvd_left (Int.gcd_dvd_right _ _))
theorem sSeq_nx {a b : Nf.S} {env e' : Nf.Env} {t t' : Tin} (h : a env t = .nx e' t') : sSeq a b env t = b e' t' := by unfold sSeq; rw [h]
theorem sSeq_rt {a b : Nf.S} {env : Nf.Env} {t t' : Tin} {v : Val} (h : a env t = .rt v t') : sSeq a b env t = .rt v t' := by unfold sSeq; rw [h]
theorem runDef_rt {p n : Nat} {s : Nf.S} {args : List Val} {t t' : Tin} {v : Val} (hl : args.length = p) (h : s (Nf.env0 n args) t = .rt v t') : Nf.runDef p n s args t = .ok v t' := by unfold Nf.runDef; rw [if_pos hl, h]
theorem eCall_ok {Γ : Gam} {k : Nat} {a : A} {env : Nf.Env} {t t1 t2 : Tin} {vs : List Val} {v : Val} (h : a env t = .ok vs t1) (g : Γ k vs t1 = .ok v t2) : Nf.eCall Γ k a env t = .ok v t2 := by
  unfold Nf.eCall; rw [h, Res.bind_ok, g]; rfl
theorem aCons_ok {f : E} {a : A} {env : Nf.Env} {t t1 t2 : Tin} {v : Val} {vs : List Val} (h : f env t = .ok v t1) (g : a env t1 = .ok vs t2) : Nf.aCons f a env t = .ok (v :: vs) t2 := by
  unfold Nf.aCons; rw [h, Res.bind_ok, g]; rfl
theorem sAsg_ok {f : E} {G : Nf.G} {env e' : Nf.Env} {t t1 : Tin} {v : Val} (h : f env t = .ok v t1) (g : G v env = some e') : Nf.sAsg G f env t = .nx e' t1 := by
  unfold Nf.sAsg; rw [h, Res.toS_ok, g]
theorem sRet_ok {f : E} {env : Nf.Env} {t t1 : Tin} {v : Val} (h : f (Nf.frzAll env) t = .ok v t1) : Nf.sRet f env t = .rt v t1 := by
  unfold Nf.sRet; rw [h]; rfl
theorem forLoop_nx {G : Nf.G} {b : Nf.S} {env e1 e2 : Nf.Env} {t t1 : Tin} {x : Val} {xs : List Val} (g : G x env = some e1) (h : b e1 t = .nx e2 t1) : Nf.forLoop G b (x :: xs) env t = Nf.forLoop G b xs e2 t1 := by
  rw [Nf.forLoop, g]; simp only [h]
theorem sSeq_ret {f : E} {s : Nf.S} {env : Nf.Env} {t t1 : Tin} {v : Val} (h : f (Nf.frzAll env) t = .ok v t1) : Nf.sSeq (Nf.sRet f) s env t = .rt v t1 := sSeq_rt (sRet_ok h)
theorem iSeq_ok {f : E} {env : Nf.Env} {t t1 : Tin} {v : Val} {xs : List Val} (h : f env t = .ok v t1) (g : Nf.items v = some xs) : Nf.iSeq f env t = .ok xs t1 := by
  unfold Nf.iSeq; rw [h, Res.bind_ok, g]
theorem eComp_ok {it : Nf.It} {G : Nf.G} {own : List Nat} {c : Nf.T} {f : E} {env : Nf.Env} {t t1 t2 : Tin} {xs vs : List Val} (h : it env t = .ok xs t1) (hl : xs.length ≤ Nf.lim) (g : Nf.compLoop G c f (Nf.wipe env own) xs t1 = .ok vs t2) : Nf.eComp it G own c f env t = .ok (.lst vs) t2 := by
  unfold Nf.eComp; rw [h, Res.bind_ok, if_pos hl, g]; rfl
theorem compLoop_yes {G : Nf.G} {f : E} {env e1 : Nf.Env} {t t1 t2 : Tin} {x v : Val} {xs vs : List Val} (g : G x env = some e1) (h : f e1 t = .ok v t1) (k : Nf.compLoop G Nf.tYes f env xs t1 = .ok vs t2) : Nf.compLoop G Nf.tYes f env (x :: xs) t = .ok (v :: vs) t2 := by
  rw [Nf.compLoop, g]; simp [Nf.eVar, Nf.eOwn, Nf.eC, Nf.eOp, Nf.eUn, Nf.aNil, Nf.aCons, Nf.eTup, Nf.eLst, Nf.eB, Nf.eCall, Nf.eIf, Nf.eTin, Nf.tru, Nf.eAnd, Nf.eOr, Nf.eNot, Nf.tTru, Nf.tBl, Nf.tAnd, Nf.tOr, Nf.tNot, Nf.tYes, Nf.gName, Nf.gsL, Nf.gTup, Nf.sNil, Nf.sSeq, Nf.sBad, Nf.sBreak, Nf.sCont, Nf.frzAll, Nf.sRet, Nf.sIf, Nf.sAsg, Nf.sAsgO, Nf.putAll, Nf.sPar, Nf.sDrop, Nf.ownL, Nf.putL, Nf.sApp, Nf.sSet, Nf.sTin, Nf.env0, Nf.runDef, Nf.oAdd, Nf.oSub, Nf.oMul, Nf.oDiv, Nf.oMod, Nf.uNeg, Nf.cNe, Nf.cEq, Nf.cLt, Nf.cLe, Nf.cGt, Nf.cGe, Nf.Val.data, Nf.dataL, Nf.Val.depth, Nf.depthL, Nf.veq, Nf.veqL, Nf.oIx, Nf.ixOf, Nf.bLen, Nf.bAbs, Nf.bInt, Nf.iSeq, Nf.items, Nf.gam, h, k]
theorem sFor_ok {it : Nf.It} {G : Nf.G} {b : Nf.S} {env e' : Nf.Env} {t t1 t2 : Tin} {xs : List Val} (h : it env t = .ok xs t1) (g : Nf.forLoop G b xs env t1 = .nx e' t2) : Nf.sFor it G b env t = .nx e' t2 := by
  unfold Nf.sFor; rw [h, Res.toS_ok, g]
theorem eOp_ok {op : Val → Val → Option Val} {f g : E} {env : Nf.Env} {t t1 t2 : Tin} {v w z : Val} (h : f env t = .ok v t1) (k : g env t1 = .ok w t2) (e : op v w = some z) : Nf.eOp op f g env t = .ok z t2 := by
  unfold Nf.eOp; rw [h, Res.bind_ok, k, Res.bind_ok, e]
theorem eTup_ok {a : A} {env : Nf.Env} {t t1 : Tin} {vs : List Val} (h : a env t = .ok vs t1) (hl : vs.length ≤ Nf.lim) : Nf.eTup a env t = .ok (.tup vs) t1 := by
  unfold Nf.eTup; rw [h, Res.bind_ok, if_pos hl]
def ev (a b : Int) : Nf.Env := [some (false, Val.int a), some (false, Val.int b)]
theorem gcd_loop : ∀ (m : Nat) (a b : Int) (n : Nat) (t : Tin), 0 ≤ b → b < 2 ^ m → 2 * m + 2 ≤ n →
    ∃ g : Int, whileN (tBl (eOp cNe (eVar 1) (eC (.int 0)))) (sSeq (sPar [(0, false), (1, false)] (aCons (eVar 1) (aCons (eOp oMod (eVar 0) (eVar 1)) aNil))) sNil) n (ev a b) t = .nx (ev g 0) t ∧ g.natAbs = Int.gcd a b
  | m, a, b, 0, t, h0, hb, hn => by omega
  | 0, a, b, n + 1, t, h0, hb, hn => by
    have : b = 0 := by simp at hb; omega
    subst this
    exact ⟨a, by simp [Nf.eVar, Nf.eOwn, Nf.eC, Nf.eOp, Nf.eUn, Nf.aNil, Nf.aCons, Nf.eTup, Nf.eLst, Nf.eB, Nf.eCall, Nf.eIf, Nf.eTin, Nf.tru, Nf.eAnd, Nf.eOr, Nf.eNot, Nf.tTru, Nf.tBl, Nf.tAnd, Nf.tOr, Nf.tNot, Nf.tYes, Nf.gName, Nf.gsL, Nf.gTup, Nf.sNil, Nf.sSeq, Nf.sBad, Nf.sBreak, Nf.sCont, Nf.frzAll, Nf.sRet, Nf.sIf, Nf.sAsg, Nf.sAsgO, Nf.putAll, Nf.sPar, Nf.sDrop, Nf.ownL, Nf.putL, Nf.sApp, Nf.sSet, Nf.sTin, Nf.env0, Nf.runDef, Nf.oAdd, Nf.oSub, Nf.oMul, Nf.oDiv, Nf.oMod, Nf.uNeg, Nf.cNe, Nf.cEq, Nf.cLt, Nf.cLe, Nf.cGt, Nf.cGe, Nf.Val.data, Nf.dataL, Nf.Val.depth, Nf.depthL, Nf.veq, Nf.veqL, Nf.oIx, Nf.ixOf, Nf.bLen, Nf.bAbs, Nf.bInt, Nf.iSeq, Nf.items, Nf.gam, whileN, ev], by simp⟩
  | m + 1, a, b, 1, t, h0, hb, hn => by omega
  | m + 1, a, b, n + 2, t, h0, hb, hn => by
    by_cases e : b = 0
    · subst e
      exact ⟨a, by simp [Nf.eVar, Nf.eOwn, Nf.eC, Nf.eOp, Nf.eUn, Nf.aNil, Nf.aCons, Nf.eTup, Nf.eLst, Nf.eB, Nf.eCall, Nf.eIf, Nf.eTin, Nf.tru, Nf.eAnd, Nf.eOr, Nf.eNot, Nf.tTru, Nf.tBl, Nf.tAnd, Nf.tOr, Nf.tNot, Nf.tYes, Nf.gName, Nf.gsL, Nf.gTup, Nf.sNil, Nf.sSeq, Nf.sBad, Nf.sBreak, Nf.sCont, Nf.frzAll, Nf.sRet, Nf.sIf, Nf.sAsg, Nf.sAsgO, Nf.putAll, Nf.sPar, Nf.sDrop, Nf.ownL, Nf.putL, Nf.sApp, Nf.sSet, Nf.sTin, Nf.env0, Nf.runDef, Nf.oAdd, Nf.oSub, Nf.oMul, Nf.oDiv, Nf.oMod, Nf.uNeg, Nf.cNe, Nf.cEq, Nf.cLt, Nf.cLe, Nf.cGt, Nf.cGe, Nf.Val.data, Nf.dataL, Nf.Val.depth, Nf.depthL, Nf.veq, Nf.veqL, Nf.oIx, Nf.ixOf, Nf.bLen, Nf.bAbs, Nf.bInt, Nf.iSeq, Nf.items, Nf.gam, whileN, ev], by simp⟩
    have hp : 0 < b := by omega
    have e1 : a.fmod b = a % b := Int.fmod_eq_emod_of_nonneg a h0
    have r0 := Int.emod_nonneg a e
    have r1 := Int.emod_lt_of_pos a hp
    by_cases e2 : a.fmod b = 0
    · refine ⟨b, by simp [Nf.eVar, Nf.eOwn, Nf.eC, Nf.eOp, Nf.eUn, Nf.aNil, Nf.aCons, Nf.eTup, Nf.eLst, Nf.eB, Nf.eCall, Nf.eIf, Nf.eTin, Nf.tru, Nf.eAnd, Nf.eOr, Nf.eNot, Nf.tTru, Nf.tBl, Nf.tAnd, Nf.tOr, Nf.tNot, Nf.tYes, Nf.gName, Nf.gsL, Nf.gTup, Nf.sNil, Nf.sSeq, Nf.sBad, Nf.sBreak, Nf.sCont, Nf.frzAll, Nf.sRet, Nf.sIf, Nf.sAsg, Nf.sAsgO, Nf.putAll, Nf.sPar, Nf.sDrop, Nf.ownL, Nf.putL, Nf.sApp, Nf.sSet, Nf.sTin, Nf.env0, Nf.runDef, Nf.oAdd, Nf.oSub, Nf.oMul, Nf.oDiv, Nf.oMod, Nf.uNeg, Nf.cNe, Nf.cEq, Nf.cLt, Nf.cLe, Nf.cGt, Nf.cGe, Nf.Val.data, Nf.dataL, Nf.Val.depth, Nf.depthL, Nf.veq, Nf.veqL, Nf.oIx, Nf.ixOf, Nf.bLen, Nf.bAbs, Nf.bInt, Nf.iSeq, Nf.items, Nf.gam, whileN, ev, e, e2], ?_⟩
      rw [← gcd_step a b hp, e2]; simp
    · have hr : 0 < a.fmod b := by omega
      have hs := two_step hr rfl (by omega : a.fmod b ≤ b)
      obtain ⟨g, hg, hv⟩ := gcd_loop m (a.fmod b) (b.fmod (a.fmod b)) n t hs.2 (by rw [Int.pow_succ] at hb; omega) (by omega)
      refine ⟨g, ?_, ?_⟩
      · rw [← hg]
        simp [Nf.eVar, Nf.eOwn, Nf.eC, Nf.eOp, Nf.eUn, Nf.aNil, Nf.aCons, Nf.eTup, Nf.eLst, Nf.eB, Nf.eCall, Nf.eIf, Nf.eTin, Nf.tru, Nf.eAnd, Nf.eOr, Nf.eNot, Nf.tTru, Nf.tBl, Nf.tAnd, Nf.tOr, Nf.tNot, Nf.tYes, Nf.gName, Nf.gsL, Nf.gTup, Nf.sNil, Nf.sSeq, Nf.sBad, Nf.sBreak, Nf.sCont, Nf.frzAll, Nf.sRet, Nf.sIf, Nf.sAsg, Nf.sAsgO, Nf.putAll, Nf.sPar, Nf.sDrop, Nf.ownL, Nf.putL, Nf.sApp, Nf.sSet, Nf.sTin, Nf.env0, Nf.runDef, Nf.oAdd, Nf.oSub, Nf.oMul, Nf.oDiv, Nf.oMod, Nf.uNeg, Nf.cNe, Nf.cEq, Nf.cLt, Nf.cLe, Nf.cGt, Nf.cGe, Nf.Val.data, Nf.dataL, Nf.Val.depth, Nf.depthL, Nf.veq, Nf.veqL, Nf.oIx, Nf.ixOf, Nf.bLen, Nf.bAbs, Nf.bInt, Nf.iSeq, Nf.items, Nf.gam, whileN, ev, e, e2]
      · rw [hv, gcd_step b _ hr, gcd_step a b hp]
def gcdV : List Val → M Val
  | [.int a, .int b], t => if 0 ≤ b ∧ b < 2 ^ 4000 then .ok (.int (Int.gcd a b)) t else .bad
  | _, _ => .bad

def lv (a b : Int) (o : Option (Bool × Val)) : Nf.Env := [some (false, Val.int a), some (false, Val.int b), o]
abbrev gcdBody : Nf.S := (sSeq (sIf (tBl (eOp cEq (eVar 1) (eC (.int 0)))) (sSeq sBreak sNil) sNil) (sSeq (sPar [(0, false), (1, false)] (aCons (eVar 1) (aCons (eOp oMod (eVar 0) (eVar 1)) aNil))) sNil))
theorem gcd_for : ∀ (m : Nat) (a b : Int) (o : Option (Bool × Val)) (xs : List Val) (t : Tin), 0 ≤ a → 0 ≤ b → b < 2 ^ m → 2 * m + 2 ≤ xs.length →
    ∃ o', forLoop (Nf.gName 2) gcdBody xs (lv a b o) t = .nx (lv (Int.gcd a b) 0 o') t
  | m, a, b, o, [], t, ha, h0, hb, hn => by simp at hn
  | 0, a, b, o, x :: xs, t, ha, h0, hb, hn => by
    have : b = 0 := by simp at hb; omega
    subst this
    refine ⟨some (false, x), ?_⟩
    simp [Nf.eVar, Nf.eOwn, Nf.eC, Nf.eOp, Nf.eUn, Nf.aNil, Nf.aCons, Nf.eTup, Nf.eLst, Nf.eB, Nf.eCall, Nf.eIf, Nf.eTin, Nf.tru, Nf.eAnd, Nf.eOr, Nf.eNot, Nf.tTru, Nf.tBl, Nf.tAnd, Nf.tOr, Nf.tNot, Nf.tYes, Nf.gName, Nf.gsL, Nf.gTup, Nf.sNil, Nf.sSeq, Nf.sBad, Nf.sBreak, Nf.sCont, Nf.frzAll, Nf.sRet, Nf.sIf, Nf.sAsg, Nf.sAsgO, Nf.putAll, Nf.sPar, Nf.sDrop, Nf.ownL, Nf.putL, Nf.sApp, Nf.sSet, Nf.sTin, Nf.env0, Nf.runDef, Nf.oAdd, Nf.oSub, Nf.oMul, Nf.oDiv, Nf.oMod, Nf.uNeg, Nf.cNe, Nf.cEq, Nf.cLt, Nf.cLe, Nf.cGt, Nf.cGe, Nf.Val.data, Nf.dataL, Nf.Val.depth, Nf.depthL, Nf.veq, Nf.veqL, Nf.oIx, Nf.ixOf, Nf.bLen, Nf.bAbs, Nf.bInt, Nf.iSeq, Nf.items, Nf.gam, forLoop, lv]
    omega
  | m + 1, a, b, o, [x], t, ha, h0, hb, hn => by simp at hn
  | m + 1, a, b, o, x :: y :: xs, t, ha, h0, hb, hn => by
    by_cases e : b = 0
    · subst e
      refine ⟨some (false, x), ?_⟩
      simp [Nf.eVar, Nf.eOwn, Nf.eC, Nf.eOp, Nf.eUn, Nf.aNil, Nf.aCons, Nf.eTup, Nf.eLst, Nf.eB, Nf.eCall, Nf.eIf, Nf.eTin, Nf.tru, Nf.eAnd, Nf.eOr, Nf.eNot, Nf.tTru, Nf.tBl, Nf.tAnd, Nf.tOr, Nf.tNot, Nf.tYes, Nf.gName, Nf.gsL, Nf.gTup, Nf.sNil, Nf.sSeq, Nf.sBad, Nf.sBreak, Nf.sCont, Nf.frzAll, Nf.sRet, Nf.sIf, Nf.sAsg, Nf.sAsgO, Nf.putAll, Nf.sPar, Nf.sDrop, Nf.ownL, Nf.putL, Nf.sApp, Nf.sSet, Nf.sTin, Nf.env0, Nf.runDef, Nf.oAdd, Nf.oSub, Nf.oMul, Nf.oDiv, Nf.oMod, Nf.uNeg, Nf.cNe, Nf.cEq, Nf.cLt, Nf.cLe, Nf.cGt, Nf.cGe, Nf.Val.data, Nf.dataL, Nf.Val.depth, Nf.depthL, Nf.veq, Nf.veqL, Nf.oIx, Nf.ixOf, Nf.bLen, Nf.bAbs, Nf.bInt, Nf.iSeq, Nf.items, Nf.gam, forLoop, lv]
      omega
    have hp : 0 < b := by omega
    have e1 : a.fmod b = a % b := Int.fmod_eq_emod_of_nonneg a h0
    have r0 := Int.emod_nonneg a e
    have r1 := Int.emod_lt_of_pos a hp
    by_cases e2 : a.fmod b = 0
    · refine ⟨some (false, y), ?_⟩
      rw [← gcd_step a b hp, e2]
      simp [Nf.eVar, Nf.eOwn, Nf.eC, Nf.eOp, Nf.eUn, Nf.aNil, Nf.aCons, Nf.eTup, Nf.eLst, Nf.eB, Nf.eCall, Nf.eIf, Nf.eTin, Nf.tru, Nf.eAnd, Nf.eOr, Nf.eNot, Nf.tTru, Nf.tBl, Nf.tAnd, Nf.tOr, Nf.tNot, Nf.tYes, Nf.gName, Nf.gsL, Nf.gTup, Nf.sNil, Nf.sSeq, Nf.sBad, Nf.sBreak, Nf.sCont, Nf.frzAll, Nf.sRet, Nf.sIf, Nf.sAsg, Nf.sAsgO, Nf.putAll, Nf.sPar, Nf.sDrop, Nf.ownL, Nf.putL, Nf.sApp, Nf.sSet, Nf.sTin, Nf.env0, Nf.runDef, Nf.oAdd, Nf.oSub, Nf.oMul, Nf.oDiv, Nf.oMod, Nf.uNeg, Nf.cNe, Nf.cEq, Nf.cLt, Nf.cLe, Nf.cGt, Nf.cGe, Nf.Val.data, Nf.dataL, Nf.Val.depth, Nf.depthL, Nf.veq, Nf.veqL, Nf.oIx, Nf.ixOf, Nf.bLen, Nf.bAbs, Nf.bInt, Nf.iSeq, Nf.items, Nf.gam, forLoop, lv, e, e2]
      omega
    · have hr : 0 < a.fmod b := by omega
      have hs := two_step hr rfl (by omega : a.fmod b ≤ b)
      obtain ⟨o', hg⟩ := gcd_for m (a.fmod b) (b.fmod (a.fmod b)) (some (false, y)) xs t (by omega) hs.2 (by rw [Int.pow_succ] at hb; omega) (by simp at hn; omega)
      refine ⟨o', ?_⟩
      rw [gcd_step b _ hr, gcd_step a b hp] at hg
      rw [← hg]
      simp [Nf.eVar, Nf.eOwn, Nf.eC, Nf.eOp, Nf.eUn, Nf.aNil, Nf.aCons, Nf.eTup, Nf.eLst, Nf.eB, Nf.eCall, Nf.eIf, Nf.eTin, Nf.tru, Nf.eAnd, Nf.eOr, Nf.eNot, Nf.tTru, Nf.tBl, Nf.tAnd, Nf.tOr, Nf.tNot, Nf.tYes, Nf.gName, Nf.gsL, Nf.gTup, Nf.sNil, Nf.sSeq, Nf.sBad, Nf.sBreak, Nf.sCont, Nf.frzAll, Nf.sRet, Nf.sIf, Nf.sAsg, Nf.sAsgO, Nf.putAll, Nf.sPar, Nf.sDrop, Nf.ownL, Nf.putL, Nf.sApp, Nf.sSet, Nf.sTin, Nf.env0, Nf.runDef, Nf.oAdd, Nf.oSub, Nf.oMul, Nf.oDiv, Nf.oMod, Nf.uNeg, Nf.cNe, Nf.cEq, Nf.cLt, Nf.cLe, Nf.cGt, Nf.cGe, Nf.Val.data, Nf.dataL, Nf.Val.depth, Nf.depthL, Nf.veq, Nf.veqL, Nf.oIx, Nf.ixOf, Nf.bLen, Nf.bAbs, Nf.bInt, Nf.iSeq, Nf.items, Nf.gam, forLoop, lv, e, e2]
def gcdL : List Val → M Val
  | [.int a, .int b], t => if b.natAbs < 2 ^ 4000 then .ok (.int (Int.gcd a b)) t else .bad
  | _, _ => .bad
/-! ### fractions -/
def sm (x : Int) : Bool := Nat.ble (Nat.succ x.natAbs) (Nat.pow 2 1500)
theorem sm_nat {x : Int} (h : sm x = true) : x.natAbs < 2 ^ 1500 := Nat.le_of_ble_eq_true h
theorem sm_log {x : Int} (h : sm x = true) : x.natAbs.log2 < 1500 := by
  have h := sm_nat h
  by_cases e : x.natAbs = 0
  · rw [e]; decide
  · exact (Nat.log2_lt e).mpr h
theorem sm_bits {x y : Int} (h : sm x = true) (g : sm y = true) : bitsOk x y = true := by
  have h1 := sm_log h
  have h2 := sm_log g
  exact decide_eq_true (by omega)
theorem sm_lt {x : Int} (h : sm x = true) : x < 2 ^ 1500 := by
  have h := sm_nat h
  have h2 : (x.natAbs : Int) < ((2 ^ 1500 : Nat) : Int) := by exact_mod_cast h
  have h3 : ((2 ^ 1500 : Nat) : Int) = (2 : Int) ^ 1500 := by simp
  rw [h3] at h2
  omega
def pr (q : Int × Int) : Val := .tup [.int q.1, .int q.2]
@[simp] theorem pr_def (q : Int × Int) : pr q = .tup [.int q.1, .int q.2] := rfl
def slimF (a b : Int) : Int × Int := (a.fdiv (Int.gcd a b), b.fdiv (Int.gcd a b))
theorem gcd_pos {a b : Int} (h : 0 < b) : (Int.gcd a b : Int) ≠ 0 := by
  have := Int.gcd_pos_of_ne_zero_right a (Int.ne_of_gt h)
  omega
theorem gcd_log {a b : Int} (h : 0 < b) (h2 : b < 2 ^ 4000) : (Int.gcd a b : Int).natAbs.log2 < 9000 := by
  have h3 : Int.gcd a b ≤ b.natAbs := Nat.le_of_dvd (by omega) (by have := Int.natAbs_dvd_natAbs.mpr (Int.gcd_dvd_right a b); simpa using this)
  have h4 : (Int.gcd a b : Int).natAbs = Int.gcd a b := by simp
  rw [h4]
  have h5 : Int.gcd a b ≠ 0 := by have := gcd_pos (a := a) h; omega
  rw [Nat.log2_lt h5]
  have h6 : b.natAbs < 2 ^ 4000 := by
    have h7 : ((b.natAbs : Nat) : Int) < ((2 ^ 4000 : Nat) : Int) := by
      have h3 : ((2 ^ 4000 : Nat) : Int) = (2 : Int) ^ 4000 := by simp
      rw [h3]; omega
    exact_mod_cast h7
  exact Nat.lt_of_le_of_lt h3 (Nat.lt_trans h6 (Nat.pow_lt_pow_right (by decide) (by decide)))
def slimV : List Val → M Val
  | [.int a, .int b], t => if 0 < b ∧ b < 2 ^ 4000 then .ok (pr (slimF a b)) t else .bad
  | _, _ => .bad
def pos (b : Int) : Bool := Nat.ble 1 b.toNat
theorem pos_iff {b : Int} : pos b = true ↔ 0 < b := by
  unfold pos
  rw [Nat.ble_eq]
  omega
def prodOk (a b c d : Int) : Bool := sm a && sm b && sm c && sm d && pos b && pos d
theorem prodOk_iff {a b c d : Int} (h : prodOk a b c d = true) : sm a = true ∧ sm b = true ∧ sm c = true ∧ sm d = true ∧ 0 < b ∧ 0 < d := by
  simp only [prodOk, Bool.and_eq_true, pos_iff] at h
  obtain ⟨⟨⟨⟨⟨h1, h2⟩, h3⟩, h4⟩, h5⟩, h6⟩ := h
  exact ⟨h1, h2, h3, h4, h5, h6⟩
theorem prod_lt {b d : Int} (hb : sm b = true) (hd : sm d = true) (h0 : 0 < b) (h1 : 0 < d) : 0 < b * d ∧ b * d < 2 ^ 4000 := by
  refine ⟨Int.mul_pos h0 h1, ?_⟩
  have h2 := sm_lt hb
  have h3 := sm_lt hd
  have h4 : b * d < 2 ^ 1500 * 2 ^ 1500 := Int.lt_of_lt_of_le (Int.mul_lt_mul_of_pos_right h2 h1) (Int.mul_le_mul_of_nonneg_left (Int.le_of_lt h3) (Int.le_of_lt (Int.pow_pos (by decide))))
  rw [← Int.pow_add] at h4
  exact Int.lt_trans h4 (Int.pow_lt_pow_of_lt (by decide) (by decide))
def timesV : List Val → M Val
  | [.tup [.int a, .int b], .tup [.int c, .int d]], t => if prodOk a b c d = true then .ok (pr (slimF (a * c) (b * d))) t else .bad
  | _, _ => .bad
def plusV : List Val → M Val
  | [.tup [.int a, .int b], .tup [.int c, .int d]], t => if prodOk a b c d = true then .ok (pr (slimF (a * d + c * b) (b * d))) t else .bad
  | _, _ => .bad
def leastV : List Val → M Val
  | [.int a, .int b], t => if (pos b && sm b && sm (a.fdiv (Int.gcd a b))) = true then .ok (.int (a.fdiv (Int.gcd a b) * b)) t else .bad
  | _, _ => .bad
def pairsOf : List Val → Option (List (Int × Int))
  | [] => some []
  | .tup [.int a, .int b] :: r => (pairsOf r).map ((a, b) :: ·)
  | _ => none
theorem pairsOf_eq : ∀ {ps : List Val} {qs : List (Int × Int)}, pairsOf ps = some qs → ps = qs.map pr
  | [], qs, h => by simp only [pairsOf, Option.some.injEq] at h; subst h; rfl
  | p :: r, qs, h => by
    unfold pairsOf at h
    split at h
    · rename_i e; cases e
    · rename_i a b r' e
      cases e
      simp only [Option.map_eq_some_iff] at h
      obtain ⟨qs', h1, rfl⟩ := h
      rw [pairsOf_eq h1]; rfl
    · cases h
def timesO (p q : Int × Int) : Option (Int × Int) := if prodOk p.1 p.2 q.1 q.2 = true then some (slimF (p.1 * q.1) (p.2 * q.2)) else none
def plusO (p q : Int × Int) : Option (Int × Int) := if prodOk p.1 p.2 q.1 q.2 = true then some (slimF (p.1 * q.2 + q.1 * p.2) (p.2 * q.2)) else none
theorem timesV_O {p q r : Int × Int} {t : Tin} (h : timesO p q = some r) : timesV [pr p, pr q] t = .ok (pr r) t := by
  obtain ⟨a, b⟩ := p
  obtain ⟨c, d⟩ := q
  unfold timesO at h
  by_cases hb : prodOk a b c d = true
  · simp only [hb, if_true, Option.some.injEq] at h
    subst h
    show (if prodOk a b c d = true then _ else _) = _
    rw [if_pos hb]
  · simp only [hb, Bool.false_eq_true, if_false] at h; cases h
theorem plusV_O {p q r : Int × Int} {t : Tin} (h : plusO p q = some r) : plusV [pr p, pr q] t = .ok (pr r) t := by
  obtain ⟨a, b⟩ := p
  obtain ⟨c, d⟩ := q
  unfold plusO at h
  by_cases hb : prodOk a b c d = true
  · simp only [hb, if_true, Option.some.injEq] at h
    subst h
    show (if prodOk a b c d = true then _ else _) = _
    rw [if_pos hb]
  · simp only [hb, Bool.false_eq_true, if_false] at h; cases h
def valueO (n : Int) : List (Int × Int) → Int × Int → Option (Int × Int)
  | [], q => some q
  | p :: ps, q => match timesO q (n, 1) with
    | some r => (match plusO r p with
      | some s => valueO n ps s
      | none => none)
    | none => none
theorem valueO_nil (n : Int) (q : Int × Int) : valueO n [] q = some q := rfl
theorem valueO_cons (n : Int) (p q : Int × Int) (ps : List (Int × Int)) : valueO n (p :: ps) q = match timesO q (n, 1) with
    | some r => (match plusO r p with
      | some s => valueO n ps s
      | none => none)
    | none => none := rfl
def valueV : List Val → M Val
  | [.tup ps, .int n], t => match pairsOf ps with
    | some qs => (match valueO n qs.reverse (0, 1) with
      | some q => .ok (pr q) t
      | none => .bad)
    | none => .bad
  | _, _ => .bad
def lcmO : List (Int × Int) → Int → Option Int
  | [], u => some u
  | q :: r, u => if (pos q.2 && sm q.2 && sm (u.fdiv (Int.gcd u q.2))) = true then lcmO r (u.fdiv (Int.gcd u q.2) * q.2) else none
def rowO (u : Int) : List (Int × Int) → Option (List Int)
  | [] => some []
  | q :: r => if (pos q.2 && sm q.2 && sm q.1 && sm (u.fdiv q.2)) = true then (match rowO u r with
    | some l => some (q.1 * u.fdiv q.2 :: l)
    | none => none) else none
def wholeO (qs : List (Int × Int)) : Option (Int × List Int) := match lcmO qs 1 with
  | some u => (match rowO u qs with
    | some l => some (u, l)
    | none => none)
  | none => none
theorem lcmO_nil (u : Int) : lcmO [] u = some u := rfl
theorem lcmO_cons (q : Int × Int) (r : List (Int × Int)) (u : Int) : lcmO (q :: r) u = if (pos q.2 && sm q.2 && sm (u.fdiv (Int.gcd u q.2))) = true then lcmO r (u.fdiv (Int.gcd u q.2) * q.2) else none := rfl
theorem rowO_cons (u : Int) (q : Int × Int) (r : List (Int × Int)) : rowO u (q :: r) = if (pos q.2 && sm q.2 && sm q.1 && sm (u.fdiv q.2)) = true then (match rowO u r with
    | some l => some (q.1 * u.fdiv q.2 :: l)
    | none => none) else none := rfl
theorem leastV_O {u : Int} {q : Int × Int} {t : Tin} (h : (pos q.2 && sm q.2 && sm (u.fdiv (Int.gcd u q.2))) = true) : leastV [.int u, .int q.2] t = .ok (.int (u.fdiv (Int.gcd u q.2) * q.2)) t := by
  show (if (pos q.2 && sm q.2 && sm (u.fdiv (Int.gcd u q.2))) = true then _ else _) = _
  rw [if_pos h]
def wholeV : List Val → M Val
  | [.tup ps], t => match pairsOf ps with
    | some qs => (match (if qs.length ≤ lim then wholeO qs else none) with
      | some (u, l) => .ok (.tup [.int u, .lst (l.map Val.int)]) t
      | none => .bad)
    | none => .bad
  | _, _ => .bad
def hornO (n : Int) : List Int → Int → Option Int
  | [], q => some q
  | a :: r, q => if (sm q && sm n) = true then hornO n r (q * n + a) else none
theorem hornO_nil (n q : Int) : hornO n [] q = some q := rfl
theorem hornO_cons (n q a : Int) (r : List Int) : hornO n (a :: r) q = if (sm q && sm n) = true then hornO n r (q * n + a) else none := rfl
def valueInV : List Val → M Val
  | [.tup ps, .int n], t => match pairsOf ps with
    | some qs => (match (if qs.length ≤ lim then wholeO qs else none) with
      | some (u, l) => (match hornO n l.reverse 0 with
        | some h => if 0 < u ∧ u < 2 ^ 4000 then .ok (pr (slimF h u)) t else .bad
        | none => .bad)
      | none => .bad)
    | none => .bad
  | _, _ => .bad
end Nf

namespace L2
open PySem PySem.Spec PyProof.Rows
/-- the set that set(..) starts from -/
abbrev nuS (w : World) : Obj := { cls := .type "set", dict := none, data := .set #[] 0 (.fresh 0 0 (!w.params.followText "set-order")) }
section
variable {P : Program} {w : World} {A : Around} {E : Value → Shared → Prop} {s : Shared}
/-- set(l) of a list of numbers: what it holds, its table walkable -/
theorem set_lstR {p : Addr} {xs : Array Value} (ks : List Int) {Q : Value → Shared → Prop} (hn : A.handled = none) (lp : s.heap.IsList p xs) (ix : IntsAre xs.toList ks) (room : ks.length + 1 < scanBound)
    (fin : ∀ (h2 : Heap) (tk n : Nat), SetR w h2 s.heap.objs.size (fun j => decide (j ∈ ks)) n → n ≤ ks.length → (∀ b o, s.heap.get? b = some o → h2.get? b = some o) → Q (.ref s.heap.objs.size) { s with heap := h2, toks := tk }) :
    wpAny (model P w) A (call (.type "set") [.ref p]) Q E s := by
  have sz : xs.size = ks.length := by have q := IntsAre.length ix; rwa [Array.length_toList] at q
  obtain ⟨c, tl, mr⟩ := F.called_set.mro
  have z1 := F.called_set.made
  have z2 := F.called_set.sub
  refine wpAny_call (codeAny_of_tree ?_)
  show wpAny _ _ (callAny (.type "set") _) _ _ _
  refine wpAny_pure ⟨Code.quiet_builtin _ (by decide +kernel), codeAny_builtin F.entry_type_call ?_⟩; rw [Around.under_plain (weight_type_call_type "set" [.ref p] []) rfl]
  have z3 := F.called_set.notType
  have z4 := F.called_set.canCreate
  have z5 := F.typeCall_set_1 (.ref p)
  repeat (any_goals (first | assumption | wp_step))
  refine codeAny_mono (code_set_led1 (.ref p) (E := E) (Q₁ := fun ob s1 => ob = .ref s.heap.objs.size ∧ s1 = { s with heap := s.heap.push (nuS w) }) ⟨rfl, rfl⟩) fun r s1 hr => ?_
  cases r with
  | error e => exact hr
  | ok fl =>
    cases fl with
    | ret ob =>
      obtain ⟨rfl, rfl⟩ := hr
      have oS : (s.heap.push (nuS w)).get? s.heap.objs.size = some (nuS w) := Heap.get?_push_size _ rfl
      have tS : Shared.TypeIs { s with heap := s.heap.push (nuS w) } (.ref s.heap.objs.size) "set" := ⟨_, oS, rfl⟩
      have z6 := F.called_set.init.lookup
      have z7 := F.called_set.init.bind (.ref s.heap.objs.size)
      repeat (any_goals (first | assumption | wp_step))
      refine codeAny_mono (codeAny_call_builtin (R := wants (fun r s2 => r = .none ∧ ∃ h2 tk n, s2 = { s with heap := h2, toks := tk } ∧ SetR w h2 s.heap.objs.size (fun j => decide (j ∈ ks)) n ∧ n ≤ ks.length ∧ (∀ b o, s.heap.get? b = some o → h2.get? b = some o)) E)
        F.called_set.init.plain F.entry_set_init (check_set_init_1 tS ?_)) fun r2 s2 hr2 => ?_
      · obtain ⟨ol, gl, cl, nl, dl⟩ := lp
        obtain ⟨o1, o2, o3, o4⟩ := ol
        simp only at cl dl
        subst cl dl
        have gl2 : (s.heap.push (nuS w)).get? p = some { cls := .type "list", dict := o2, data := .seq xs nl, slots := o4 } := Heap.get?_push_of_some _ gl
        have z8 := F.sub_list_set
        have z9 := F.sub_list_frozenset
        have z10 : (Value.type "list" == Value.type "dict") = false := by decide
        have lp2 : (s.heap.push (nuS w)).IsList p xs := ⟨_, gl2, rfl, nl, rfl⟩
        unfold Builtin.«set.__init__» noKeywords Builtin.Frozenset.updateFrom
        generalize hPI : pyIter = PI
        wp_walk
        subst hPI
        refine wpAny_pyIter_list lp2 (wpAny_bind (wpAny_runValue ?_))
        have lt1 : p < s.heap.objs.size := Heap.lt_size gl
        have hn3 : A.in1.in1.in1.handled = none := by simp [hn]
        have ne1 : p ≠ (s.heap.push (nuS w)).objs.size := by rw [Heap.size_push]; exact Nat.ne_of_lt (Nat.lt_succ_of_lt lt1)
        have nin : s.heap.objs.size ∉ [(s.heap.push (nuS w)).objs.size, p] := by
          rw [Heap.size_push]
          intro hm
          rcases List.mem_cons.mp hm with e | e
          · exact Nat.ne_of_lt (Nat.lt_succ_self _) e
          · exact Nat.ne_of_gt lt1 (List.mem_singleton.mp e)
        have vals : ∀ (i : Nat) (v : Value), xs[i]? = some v → ∃ k t, ks[i]? = some k ∧ v = .int k t := fun i v hv => by
          have hi : i < ks.length := by rw [← sz]; exact (Array.getElem?_eq_some_iff.mp hv).1
          obtain ⟨t, e⟩ := PyProof.Rows.IntsAre.int_at ix i v (by rw [Array.getElem?_toList]; exact hv)
          exact ⟨ks[i], t, List.getElem?_eq_getElem hi, by rw [e, List.getD_eq_getElem?_getD, List.getElem?_eq_getElem hi] <;> rfl⟩
        refine set_update_ints ((Walks.list hn3 _ p ne1 xs).toS) s.heap.objs.size nin ks sz room vals (xs.size - 0) 0 _ (by omega) (Nat.zero_le _) ⟨⟨_, Heap.get?_push_size _ rfl, rfl, rfl⟩, (lp2.push _)⟩ ?g0 ?g1
        case g0 => exact ⟨0, Nat.le_refl 0, setR_new_at (Heap.get?_push_of_some _ oS)⟩
        case g1 =>
          intro s3 n3 hm le3 R3
          obtain ⟨h3, g3, d3, t3, os3⟩ := s3
          obtain rfl : g3 = s.gens := hm.gens
          obtain rfl : d3 = s.drawn := hm.drawn
          obtain rfl : os3 = s.os := hm.os
          show wpAny _ _ _ _ _ _
          refine wpAny_pure ?_
          show wpAny _ _ (ret Value.none) _ _ _
          rw [sz] at le3
          refine wpAny_pure ⟨rfl, h3, t3, n3, rfl, R3, le3, fun b o e => ?_⟩
          have lt2 : b < s.heap.objs.size := Heap.lt_size e
          refine hm.heap b o ?_ (Heap.get?_push_of_some _ (Heap.get?_push_of_some _ e))
          rw [Heap.size_push]
          intro hm
          rcases List.mem_cons.mp hm with e | e
          · exact Nat.ne_of_lt lt2 e
          · exact Nat.ne_of_lt (Nat.lt_succ_of_lt lt2) (List.mem_singleton.mp e)
      · cases r2 with
        | error e => exact hr2
        | ok fl2 =>
          cases fl2 with
          | ret r =>
            obtain ⟨rfl, h2, tk, n, rfl, q1, q2, q3⟩ := hr2
            repeat (any_goals (first | assumption | wp_step))
            exact fin _ _ _ q1 q2 q3
          | _ => exact hr2.elim
    | _ => exact hr.elim
end
end L2

namespace L2
open PySem PySem.Spec PyProof.Rows
/-- set(l) of numbers -/
def rSetLs (X : Cx) : List V → Hp → VK → Prop := fun xs H Q => ∃ (a : Addr) (ks : List Int), xs = [V.ref a] ∧ SqL X.K H a (ks.map V.int) ∧ ks.length + 1 < scanBound ∧ ∀ (p : Addr) (n : Nat), H p = none → n ≤ ks.length → Q (.ref p) (upd H p (SetO X.w p (fun j => decide (j ∈ ks)) n))
theorem cr_setLs {X : Cx} (hc : X.calm = true) : CallR X (.type "set") (rSetLs X) := by
  intro pins s σ H xs us Q I r h
  obtain ⟨a, ks, rfl, hs, room, q⟩ := h
  obtain ⟨its, rv, hl, _⟩ := I.list hs
  rw [Vals.ref1 r]
  refine set_lstR ks (I.ok.hd hc) hl.isList rv.ints room fun h2 tk n R hn hk => ?_
  exact ⟨.ref _, upd H s.heap.objs.size (SetO X.w s.heap.objs.size (fun j => decide (j ∈ ks)) n), I.laid hk (Nat.le_refl _) (setO_new R), rfl, q _ n (I.hok.fresh (Nat.le_refl _)) hn⟩
end L2
namespace Nf
open PySem PySem.Spec PyProof.Rows L2
theorem insU_mem (i k : Int) : ∀ l : List Int, k ∈ insU i l ↔ k = i ∨ k ∈ l
  | [] => by simp [insU]
  | j :: r => by
    unfold insU
    split
    · simp
    · split
      · rename_i e; subst e; simp
      · rw [List.mem_cons, insU_mem i k r, List.mem_cons]
        constructor
        · rintro (h | h | h) <;> simp [h]
        · rintro (h | h | h) <;> simp [h]
theorem sortU_mem (k : Int) : ∀ l : List Int, k ∈ sortU l ↔ k ∈ l
  | [] => by simp [sortU]
  | i :: r => by
    show k ∈ insU i (sortU r) ↔ _
    rw [insU_mem, sortU_mem k r, List.mem_cons]
theorem insU_lt (i : Int) : ∀ l : List Int, l.Pairwise (· < ·) → (insU i l).Pairwise (· < ·)
  | [], _ => by simp [insU]
  | j :: r, h => by
    obtain ⟨h1, h2⟩ := List.pairwise_cons.mp h
    unfold insU
    split
    · rename_i c
      refine List.pairwise_cons.mpr ⟨fun k hk => ?_, h⟩
      rcases List.mem_cons.mp hk with e | hk
      · rw [e]; exact c
      · exact Int.lt_trans c (h1 k hk)
    · split
      · exact h
      · refine List.pairwise_cons.mpr ⟨fun k hk => ?_, insU_lt i r h2⟩
        rcases (insU_mem i k r).mp hk with e | hk
        · omega
        · exact h1 k hk
theorem sortU_lt : ∀ l : List Int, (sortU l).Pairwise (· < ·)
  | [] => List.Pairwise.nil
  | i :: r => insU_lt i _ (sortU_lt r)
theorem lt_uniq : ∀ l m : List Int, l.Pairwise (· < ·) → m.Pairwise (· < ·) → (∀ k, k ∈ l ↔ k ∈ m) → l = m
  | [], [], _, _, _ => rfl
  | [], b :: m, _, _, h => absurd ((h b).mpr List.mem_cons_self) (by simp)
  | a :: l, [], _, _, h => absurd ((h a).mp List.mem_cons_self) (by simp)
  | a :: l, b :: m, h1, h2, h => by
    obtain ⟨a1, a2⟩ := List.pairwise_cons.mp h1
    obtain ⟨b1, b2⟩ := List.pairwise_cons.mp h2
    have e : a = b := by
      rcases List.mem_cons.mp ((h a).mp List.mem_cons_self) with e | e
      · exact e
      · rcases List.mem_cons.mp ((h b).mpr List.mem_cons_self) with f | f
        · exact f.symm
        · have := b1 a e; have := a1 b f; omega
    subst e
    rw [lt_uniq l m a2 b2 fun k => ?_]
    constructor
    · intro hk
      rcases List.mem_cons.mp ((h k).mp (List.mem_cons_of_mem _ hk)) with e | e
      · have := a1 k hk; omega
      · exact e
    · intro hk
      rcases List.mem_cons.mp ((h k).mpr (List.mem_cons_of_mem _ hk)) with e | e
      · have := b1 k hk; omega
      · exact e
section
variable {z : Cz} {W : Wx} {X : Cx} {f : E} {pos p p2 p3 : Pos} {e : Expr}
/-- sorted(set(e)) -/
theorem xsortset [F : Fit z X] (hg : Gl X "sorted") (hm : X.mg "sorted" = none) (hg2 : Gl X "set") (hm2 : X.mg "set" = none) (he : PE X e (rd z W (RO z) f))
    (na : starEach [e] X.env = (false, eval e X.env) :: starEach [] X.env := by rfl) (na2 : starEach [Expr.Call (.Name "set" p2) [e] [] p3] X.env = (false, eval (Expr.Call (.Name "set" p2) [e] [] p3) X.env) :: starEach [] X.env := by rfl)
    (hpl : (backTo p3 (starEach [] X.env)).any (·.1) = false := by rfl) (hpl2 : (backTo pos (starEach [] X.env)).any (·.1) = false := by rfl) :
    PE X (.Call (.Name "sorted" p) [.Call (.Name "set" p2) [e] [] p3] [] pos) (rd z W (RN z) (eSortSet f)) := by
  refine (pe_callB (cr_sortedSet F.calm) hg hm (by decide +kernel) (pa_cons (pe_callTy (cr_setLs F.calm) hg2 hm2 (by decide +kernel) (pa_cons he pa_nil na) (by decide) (by decide) na hpl) pa_nil na2) (by decide) (by decide) na2 hpl2).imp fun σ H Q h => ?_
  obtain ⟨L0, H0, t0, L, env, t, r, h⟩ := h
  refine ⟨L0, H0, t0, L, env, t, r, ?_⟩
  simp only [eSortSet] at h
  cases e : f env t with
  | bad => rw [e] at h; exact h
  | exc k t' => rw [e] at h; exact h
  | ok v t1 =>
    rw [e] at h
    simp only [Res.bind_ok] at h
    intro x H1 L1 g1 rx
    cases v <;> first | exact h.elim | skip
    rename_i xs
    simp only at h
    cases e2 : intsOf xs with
    | none => rw [e2] at h; exact h.elim
    | some ns =>
      rw [e2] at h
      simp only at h
      by_cases hl : ns.length < 64
      case neg => rw [if_neg hl] at h; exact h.elim
      rw [if_pos hl] at h
      obtain ⟨a, ys, rfl, ha, ry⟩ := (RO.go (.refl g1.ok) rx : RO z L1 H1 L1 H1 _ _).lst
      have ey := ry.intsOf e2
      subst ey
      refine ⟨a, ns, rfl, .inl (.inl ha), by unfold scanBound; omega, fun q n hq hn => ?_⟩
      have g2 := Go.upd (o := SetO X.w q (fun j => decide (j ∈ ns)) n) g1.ok hq
      refine ⟨q, _, n, rfl, upd_same, by omega, fun ks p4 hs hm hlen hp4 => ?_⟩
      have ek : ks = sortU ns := lt_uniq ks (sortU ns) hs (sortU_lt ns) fun k => by
        rw [hm k, sortU_mem]; simp
      subst ek
      exact newN g2.ok (Rvs.ofInts _) (fun u H' L' g3 r3 => h u H' L' (g1.trans (g2.trans g3)) (RN.back.go (g1.trans g2) r3)) hp4
end
end Nf

/-! sorted of tuples of numbers, any number of them -/
namespace SrtO
open PySem PyProof.Rows Srt
/-- Python's < of tuples of numbers -/
def lexL : List Int → List Int → Bool
  | [], [] => false
  | [], _ :: _ => true
  | _ :: _, [] => false
  | x :: xs, y :: ys => if x = y then lexL xs ys else decide (x < y)
theorem lexL_irr : ∀ x : List Int, lexL x x = false
  | [] => rfl
  | x :: xs => by simp [lexL, lexL_irr xs]
theorem lexL_asym : ∀ x y : List Int, lexL x y = true → lexL y x = false
  | [], [], h => rfl
  | [], _ :: _, h => rfl
  | _ :: _, [], h => by simp [lexL] at h
  | x :: xs, y :: ys, h => by
    unfold lexL at h ⊢
    by_cases e : x = y
    · rw [if_pos e] at h; rw [if_pos e.symm]; exact lexL_asym xs ys h
    · rw [if_neg e, decide_eq_true_eq] at h; rw [if_neg (Ne.symm e), decide_eq_false_iff_not]; omega
theorem lexL_tr : ∀ x y z : List Int, lexL x y = false → lexL y z = false → lexL x z = false
  | [], [], z, h, h2 => h2
  | [], _ :: _, z, h, h2 => by simp [lexL] at h
  | _ :: _, _, [], h, h2 => by simp [lexL]
  | _ :: _, [], _ :: _, h, h2 => by simp [lexL] at h2
  | x :: xs, y :: ys, z :: zs, h, h2 => by
    unfold lexL at h h2 ⊢
    by_cases e : x = y
    · rw [if_pos e] at h
      subst e
      by_cases e2 : x = z
      · rw [if_pos e2] at h2 ⊢; exact lexL_tr xs ys zs h h2
      · rw [if_neg e2] at h2 ⊢; exact h2
    · rw [if_neg e, decide_eq_false_iff_not] at h
      by_cases e2 : y = z
      · subst e2
        rw [if_neg e, decide_eq_false_iff_not]; exact h
      · rw [if_neg e2, decide_eq_false_iff_not] at h2
        rw [if_neg (by omega), decide_eq_false_iff_not]; omega
theorem lexL_tot : ∀ x y : List Int, lexL x y = false → lexL y x = false → x = y
  | [], [], _, _ => rfl
  | [], _ :: _, h, _ => by simp [lexL] at h
  | _ :: _, [], _, h => by simp [lexL] at h
  | x :: xs, y :: ys, h, h2 => by
    unfold lexL at h h2
    by_cases e : x = y
    · rw [if_pos e] at h; rw [if_pos e.symm] at h2
      rw [e, lexL_tot xs ys h h2]
    · rw [if_neg e, decide_eq_false_iff_not] at h
      rw [if_neg (Ne.symm e), decide_eq_false_iff_not] at h2
      omega
theorem swo_lexL (k : Value → List Int) : Swo fun v u => lexL (k v) (k u) := ⟨fun x y h => lexL_asym _ _ h, fun x y z h1 h2 => lexL_tr _ _ _ h2 h1⟩
section
variable {prog : Program} {w : World} {A : Around} {E : Value → Shared → Prop} {s : Shared}
theorem lex_intsL {Q : Bool → Shared → Prop} {b : Bool} {xs ys : List Value} {ns ms : List Int} (i : Nat) (hx : IntsAre xs ns) (hy : IntsAre ys ms) (hl : ns.length = ms.length) (h : Q (lexL ns ms) s) : PySem.W.KatLex prog w A b false Q (xs.zip ys) i s := by
  induction hx generalizing ys ms i with
  | nil =>
    cases hy with
    | nil => exact PySem.W.kat_nil h
    | cons q u hy => simp at hl
  | @cons p t xs ns hx ih =>
    cases hy with
    | nil => simp at hl
    | @cons q u ys ms hy =>
      have hl' : ns.length = ms.length := by simpa using hl
      show PySem.W.KatLex prog w A b false Q ((Value.int p t, Value.int q u) :: xs.zip ys) i s
      refine PySem.W.kat_cons (wpAny_eqBool_int ?_)
      by_cases e : p = q
      · subst e
        rw [beq_self_eq_true]
        have d : lexL (p :: ns) (p :: ms) = lexL ns ms := by simp [lexL]
        rw [d] at h
        refine PySem.W.kat_yes ?_
        first
          | exact ih (i + 1) hy hl' h
          | exact ih _ _ (i + 1) hy hl' h
      · rw [show (p == q) = false from beq_eq_false_iff_ne.mpr e]
        refine PySem.W.kat_no (TS.oneLt_ints _ ?_)
        have d : lexL (p :: ns) (q :: ms) = decide (p < q) := by simp [lexL, e]
        rw [d] at h
        exact h
theorem tups_cmp {vs : List Value} {d : Nat} {k : Value → List Int} (hp : ∀ v ∈ vs, TS.TupInts s.heap v (k v) ∧ (k v).length = d) : Cmp prog w A s (tuples' true) (fun p => p.1 ∈ vs) (lt2 fun v u => lexL (k v) (k u)) := by
  intro p q hm hm'
  obtain ⟨h1, l1⟩ := hp _ hm
  obtain ⟨h2, l2⟩ := hp _ hm'
  show wpAny (model prog w) A (keyLt' (tuples' true) p.1 q.1) (fun r s' => s' = s ∧ r = lexL (k p.1) (k q.1)) (fun _ _ => False) s
  generalize k p.1 = x at h1 l1 ⊢
  generalize k q.1 = y at h2 l2 ⊢
  obtain ⟨a, xs, e1, ⟨o, ho, hc, n, hdt⟩, i⟩ := h1
  obtain ⟨a', ys, e2, ⟨o', ho', hc', n', hdt'⟩, i'⟩ := h2
  rw [e1, e2]
  refine PySem.W.kat_lt ho hdt ho' hdt' ?_
  have sz : decide (xs.size < ys.size) = false := by
    have l1 := i.length
    have l2 := i'.length
    rw [Array.length_toList] at l1 l2
    exact decide_eq_false (by omega)
  rw [sz]
  exact lex_intsL 0 i i' (by omega) ⟨rfl, rfl⟩
theorem tups_sortableO {a : Addr} {vs : List Value} {d : Nat} {k : Value → List Int} (hd : 1 ≤ d) (h0 : 0 < vs.length) (hp : ∀ v ∈ vs, TS.TupInts s.heap v (k v) ∧ (k v).length = d) (ha : ∀ o, s.heap.get? a = some o → o.cls ≠ .type "tuple") : SortableO prog w A s a vs fun v u => lexL (k v) (k u) := by
  intro h' keep
  have hp' : ∀ v ∈ vs, TS.TupInts h' v (k v) ∧ (k v).length = d := fun v hm => ⟨(hp v hm).1.keeps fun b o e c => keep b o (fun z => by subst z; exact ha o e c) e, (hp v hm).2⟩
  have firsts : ∀ us : List Value, (∀ v ∈ us, TS.TupInts h' v (k v) ∧ (k v).length = d) → ∃ fs, PySem.W.KatTups h' us fs ∧ fs.length = us.length ∧ ∀ f, f ∈ fs → ∃ n t, f = Value.int n t := by
    intro us
    induction us with
    | nil => intro _; exact ⟨[], PySem.W.KatTups.nil, rfl, fun f hf => by simp at hf⟩
    | cons v us ih =>
      intro x
      obtain ⟨fs, kk, hl, hi⟩ := ih fun u hu => x u (List.mem_cons_of_mem _ hu)
      obtain ⟨⟨a, xs, e0, ⟨o, ho, hc, n, hdt⟩, i⟩, hn⟩ := x v (List.mem_cons_self ..)
      obtain ⟨y, ys, e⟩ : ∃ y ys, xs.toList = y :: ys := by
        cases q : xs.toList with
        | nil =>
          rw [q] at i
          have l := i.length
          rw [List.length_nil, hn] at l
          omega
        | cons y ys => exact ⟨y, ys, rfl⟩
      obtain ⟨m, t, hy⟩ := i.all y (by rw [e]; exact List.mem_cons_self ..)
      rw [e0]
      refine ⟨y :: fs, PySem.W.KatTups.cons ho hc hdt ?_ kk, by simp [hl], ?_⟩
      · have z := congrArg (fun l : List Value => l[0]?) e
        simpa using z
      · intro f hf
        rcases List.mem_cons.mp hf with rfl | hf
        · exact ⟨m, t, hy⟩
        · exact hi f hf
  obtain ⟨fs, h1, h2, h3⟩ := firsts vs hp'
  refine ⟨tuples' true, fun Q E hq => ?_, tups_cmp hp'⟩
  refine PySem.W.kat_kind (T := .type "int") h1 (by omega) (fun f hm => ?_) (by rfl) ?_
  · obtain ⟨x, t, rfl⟩ := h3 f hm
    exact PySem.W.Looks.now
  · have e : (Value.type "int" != Value.type "tuple") = true := by first | decide +kernel | rfl | decide
    rw [e]
    exact hq
theorem sorted_tupsO {l : Addr} {vs : List Value} {d : Nat} {k : Value → List Int} {Q : Value → Shared → Prop} (hd : 1 ≤ d) (hl : s.heap.IsList l vs.toArray) (hz : vs.length ≤ sizeLine) (hp : ∀ v ∈ vs, TS.TupInts s.heap v (k v) ∧ (k v).length = d)
    (h : ∀ (h' : Heap) (d : Addr) (out : List Value), Srtd (fun v u => lexL (k v) (k u)) out → Stb (fun v u => lexL (k v) (k u)) out vs → (∀ b o, s.heap.get? b = some o → h'.get? b = some o) → s.heap.objs.size ≤ d → (∃ n, h'.get? d = some (seqObj "list" out.toArray n)) → Q (.ref d) { s with heap := h' }) :
    wpAny (model prog w) A (call (.builtin "sorted") [.ref l]) Q E s := by
  refine sorted_ord (swo_lexL k) hl hz (fun h2 h₁ a ha kk => ?_) fun out hs hb => ?_
  · refine tups_sortableO (s := { s with heap := h₁ }) hd (by omega) (fun v hm => ⟨(hp v hm).1.keeps fun b o e _ => (kk b o e).2, (hp v hm).2⟩) fun o e => ?_
    have e' : some o = some (seqObj "list" vs.toArray 0) := e.symm.trans ha
    cases e'
    intro c
    exact absurd (Value.type.inj c) (by decide)
  · exact h _ _ out hs hb (fun b o e => sortedAll_old e) (Nat.le_succ _) (sortedAll_at s.heap vs out.toArray)
end
end SrtO
namespace L2
open PySem PySem.Spec PyProof.Rows
/-- sorted(xs), xs a list of tuples of d numbers -/
def rSortedTO (K : PySem.W.Frag) : List V → Hp → VK → Prop := fun vs H Q => ∃ (a : Addr) (xs : List V) (d : Nat), 1 ≤ d ∧ vs = [V.ref a] ∧ SqL K H a xs ∧ (∀ x ∈ xs, ∃ ns, TupI K H x ns ∧ ns.length = d) ∧
  ∀ ys p, ys.Pairwise (fun x y => ∀ n m, TupI K H x n → TupI K H y m → SrtO.lexL m n = false) → ys.Perm xs → H p = none → Q (.ref p) (upd H p (.lst ys))
section
variable {X : Cx}
theorem cr_sortedTO : CallR X (.builtin "sorted") (rSortedTO X.K) := by
  intro pins s σ H vs us Q I r h
  obtain ⟨a, xs, d, hd, rfl, hs, hx, q⟩ := h
  obtain ⟨its, rv, hl, hz⟩ := I.list hs
  obtain ⟨u, rfl, ru⟩ := vals1 r
  obtain rfl : u = Value.ref a := ru
  obtain ⟨e1, e2⟩ := refs_back rv fun x m => by
    obtain ⟨ns, ⟨t, e, _⟩, _⟩ := hx x m
    exact ⟨t, e⟩
  have raw : ∀ (t : Addr) (n : List Int), TupI X.K H (V.ref t) n → TS.TupInts s.heap (.ref t) n := fun t n h => by
    obtain ⟨t', e, ht⟩ := h
    cases e
    exact tupI_raw I ht
  refine SrtO.sorted_tupsO (d := d) (k := fun u => TS.intsOf s.heap u) hd hl.isList (by rw [← rv.length]; exact hz) (fun v hv => ?_) fun h' d out h1 h2 kp hd hn => ?_
  · obtain ⟨t, rfl⟩ := e2 v hv
    have hm : V.ref t ∈ xs := by rw [e1]; exact List.mem_map.mpr ⟨_, hv, rfl⟩
    obtain ⟨ns, ht, hl2⟩ := hx _ hm
    have := raw t ns ht
    rw [this.ints]
    exact ⟨this, hl2⟩
  · have h3 : ∀ u ∈ out, ∃ a, u = Value.ref a := fun u hu => e2 u (h2.perm.mem_iff.mp hu)
    obtain ⟨n, hn⟩ := hn
    have hb : (out.map backV).Perm xs := by
      rw [e1]
      exact h2.perm.map backV
    have hp : (out.map backV).Pairwise (fun x y => ∀ n m, TupI X.K H x n → TupI X.K H y m → SrtO.lexL m n = false) := by
      rw [List.pairwise_map]
      have h1' : out.Pairwise (fun x y => SrtO.lexL (TS.intsOf s.heap y) (TS.intsOf s.heap x) = false) := h1
      refine h1'.imp_of_mem fun {u v} hu hv h n m hn hm => ?_
      obtain ⟨t, rfl⟩ := h3 u hu
      obtain ⟨t', rfl⟩ := h3 v hv
      rw [(raw t n hn).ints, (raw t' m hm).ints] at h
      exact h
    refine ⟨.ref d, upd H d (.lst (out.map backV)), I.laid (t' := s.toks) kp hd ⟨?_, out, n, vals_back h3, hn⟩, rfl, q _ d hp hb (I.hok.fresh hd)⟩
    rw [hb.length_eq]
    exact hz
end
end L2
namespace Nf
open PySem PySem.Spec PyProof.Rows L2
theorem insT_perm (x : List Int) : ∀ l, (insT x l).Perm (x :: l)
  | [] => List.Perm.refl _
  | y :: l => by
    unfold insT
    split
    · exact ((insT_perm x l).cons y).trans (List.Perm.swap x y l)
    · exact List.Perm.refl _
theorem sortT_perm : ∀ l, (sortT l).Perm l
  | [] => List.Perm.refl _
  | x :: l => (insT_perm x (sortT l)).trans ((sortT_perm l).cons x)
theorem ltL_eq : ∀ x y, ltL x y = SrtO.lexL x y
  | [], [] => rfl
  | [], _ :: _ => rfl
  | _ :: _, [] => rfl
  | x :: xs, y :: ys => by unfold ltL SrtO.lexL; rw [ltL_eq xs ys]
theorem insT_sorted (x : List Int) : ∀ {l : List (List Int)}, l.Pairwise (fun a b => SrtO.lexL b a = false) → (insT x l).Pairwise (fun a b => SrtO.lexL b a = false)
  | [], h => by simp [insT]
  | y :: l, h => by
    unfold insT
    rw [List.pairwise_cons] at h
    split
    · rename_i c
      rw [List.pairwise_cons]
      refine ⟨fun z hz => ?_, insT_sorted x h.2⟩
      rcases List.mem_cons.mp ((insT_perm x l).mem_iff.mp hz) with rfl | hz
      · rw [ltL_eq] at c; exact SrtO.lexL_asym _ _ c
      · exact h.1 z hz
    · rename_i c
      rw [ltL_eq, Bool.not_eq_true] at c
      rw [List.pairwise_cons, List.pairwise_cons]
      refine ⟨fun z hz => ?_, h⟩
      rcases List.mem_cons.mp hz with rfl | hz
      · exact c
      · exact SrtO.lexL_tr _ _ _ (h.1 z hz) c
theorem sortT_sorted : ∀ l : List (List Int), (sortT l).Pairwise (fun a b => SrtO.lexL b a = false)
  | [] => List.Pairwise.nil
  | x :: l => insT_sorted x (sortT_sorted l)
theorem sortT_uniq {l m : List (List Int)} (p : l.Perm m) (h1 : l.Pairwise (fun a b => SrtO.lexL b a = false)) (h2 : m.Pairwise (fun a b => SrtO.lexL b a = false)) : l = m :=
  List.Perm.eq_of_pairwise (fun a b _ _ h h' => SrtO.lexL_tot _ _ h' h) h1 h2 p
section
variable {z : Cz} {W : Wx} {X : Cx} {L : Lk} {H : Hp} {t : Tin} {R : Rr} {pos p : Pos} {f : E} {e : Expr}
def tupI (l : List Int) : Val := .tup (l.map .int)
theorem tupsI_eq : ∀ {vs : List Val} {ls : List (List Int)}, tupsI vs = some ls → vs = ls.map tupI
  | [], ls, h => by simp only [tupsI, Option.some.injEq] at h; subst h; rfl
  | v :: vs, ls, h => by
    cases v <;> simp only [tupsI, reduceCtorEq] at h
    rename_i xs
    cases e1 : Nf.intsOf xs with
    | none => rw [e1] at h; cases h
    | some ns =>
      cases e2 : tupsI vs with
      | none => rw [e1, e2] at h; cases h
      | some ms =>
        rw [e1, e2] at h
        cases h
        have e3 : xs = ns.map .int := by
          clear e2
          induction xs generalizing ns with
          | nil => simp only [Nf.intsOf, Option.some.injEq] at e1; subst e1; rfl
          | cons y xs ih =>
            cases y <;> simp only [Nf.intsOf, reduceCtorEq, Option.map_eq_some_iff] at e1
            obtain ⟨ks, e4, rfl⟩ := e1
            rw [ih ks e4]; rfl
        rw [tupsI_eq e2, e3]; rfl
theorem tupI_rv {l : List Int} {x : V} (h : Rv z L H (tupI l) x) : TupI z.K H x l := by
  unfold tupI at h
  simp only [Rv] at h
  obtain ⟨a, ys, rfl, h1, h2⟩ := h
  refine ⟨a, rfl, ?_⟩
  have : ys = l.map V.int := h2.intsOf (by clear h1 h2; induction l with
    | nil => rfl
    | cons n l ih => simp only [List.map_cons, Nf.intsOf, ih, Option.map_some])
  rw [← this]; exact h1
theorem Rvs.permT : ∀ {ys ys' : List V}, ys'.Perm ys → ∀ {ls : List (List Int)}, Rvs z L H (ls.map tupI) ys → ∃ ls' : List (List Int), ls'.Perm ls ∧ Rvs z L H (ls'.map tupI) ys' := by
  intro ys ys' p
  induction p with
  | nil => intro ls r; exact ⟨ls, List.Perm.refl _, r⟩
  | cons x p ih =>
    intro ls r
    cases ls with
    | nil => simp [Rvs] at r
    | cons l ls =>
      simp only [List.map_cons, Rvs] at r
      obtain ⟨y, u, e, h1, h2⟩ := r
      cases e
      obtain ⟨ls', p', r'⟩ := ih h2
      exact ⟨l :: ls', p'.cons l, Rvs.cons h1 r'⟩
  | swap x y l =>
    intro ls r
    match ls, r with
    | [], r => simp [Rvs] at r
    | [a], r => simp [Rvs] at r
    | a :: b :: ls, r =>
      simp only [List.map_cons, Rvs] at r
      obtain ⟨y1, u1, e, h1, y2, u2, e2, h2, h3⟩ := r
      cases e; cases e2
      exact ⟨b :: a :: ls, List.Perm.swap a b ls, Rvs.cons h2 (Rvs.cons h1 h3)⟩
  | trans p1 p2 ih1 ih2 =>
    intro ls r
    obtain ⟨l1, q1, r1⟩ := ih2 r
    obtain ⟨l2, q2, r2⟩ := ih1 r1
    exact ⟨l2, q2.trans q1, r2⟩
theorem Rvs.pairT : ∀ {ls : List (List Int)} {ys : List V}, Rvs z L H (ls.map tupI) ys → ys.Pairwise (fun x y => ∀ n m, TupI z.K H x n → TupI z.K H y m → SrtO.lexL m n = false) → ls.Pairwise (fun a b => SrtO.lexL b a = false)
  | [], _, _, _ => List.Pairwise.nil
  | l :: ls, _, r, h => by
    simp only [List.map_cons, Rvs] at r
    obtain ⟨y, u, rfl, h1, h2⟩ := r
    rw [List.pairwise_cons] at h ⊢
    refine ⟨fun m hm => ?_, Rvs.pairT h2 h.2⟩
    obtain ⟨i, hi, rfl⟩ := List.getElem_of_mem hm
    obtain ⟨y', e1, r'⟩ := h2.get (i := i) (v := tupI ls[i]) (by rw [List.getElem?_map, List.getElem?_eq_getElem hi]; rfl)
    exact h.1 y' (List.mem_of_getElem? e1) l ls[i] (tupI_rv h1) (tupI_rv r')
/-- sorted(xs), xs a list of tuples of numbers -/
theorem xsortT [F : Fit z X] (hg : Gl X "sorted") (hm : X.mg "sorted" = none) (he : PE X e (rd z W (RO z) f))
    (hs1 : starEach [e] X.env = (false, eval e X.env) :: starEach [] X.env := by rfl) :
    PE X (.Call (.Name "sorted" p) [e] [] pos) (rd z W (RN z) (eSortT f)) := by
  refine (pe_callB cr_sortedTO hg hm (by decide +kernel) (pa_cons he pa_nil hs1) (by decide) (by decide) hs1 rfl).imp fun σ H Q h => ?_
  obtain ⟨L0, H0, t0, L, env, t, r, h⟩ := h
  refine ⟨L0, H0, t0, L, env, t, r, ?_⟩
  simp only [eSortT] at h
  cases e : f env t with
  | bad => rw [e] at h; exact h
  | exc k t' => rw [e] at h; exact h
  | ok v t1 =>
    rw [e] at h
    simp only [Res.bind_ok] at h
    intro x H1 L1 g1 rx
    cases v <;> simp only at h <;> first | exact h.elim | skip
    rename_i xs
    cases e2 : tupsI xs with
    | none => rw [e2] at h; exact h.elim
    | some ls =>
      rw [e2] at h
      simp only at h
      by_cases c : (ls.all fun l => decide (1 ≤ l.length ∧ l.length = (ls.headD []).length)) = true
      · rw [if_pos c] at h
        have e3 := tupsI_eq e2
        subst e3
        obtain ⟨a, ys, rfl, h1, h2⟩ := (RO.go (.refl g1.ok) rx : RO z L1 H1 L1 H1 _ _).lst
        have fin : ∀ ys' q, ys'.Pairwise (fun x y => ∀ n m, TupI z.K H1 x n → TupI z.K H1 y m → SrtO.lexL m n = false) → ys'.Perm ys → H1 q = none → Q (.ref q) (upd H1 q (.lst ys')) := by
          intro ys' q hp hb hq
          obtain ⟨ls', p1, r1⟩ := Rvs.permT hb h2
          have e4 : ls' = sortT ls := sortT_uniq (p1.trans (sortT_perm ls).symm) (Rvs.pairT r1 hp) (sortT_sorted ls)
          subst e4
          exact newN g1.ok r1 (fun u H' L' g2 r2 => h u H' L' (g1.trans g2) (RN.back.go g1 r2)) hq
        refine ⟨a, ys, max 1 (ls.headD []).length, by omega, rfl, .inl (.inl h1), fun y hy => ?_, by rw [F.K]; exact fin⟩
        obtain ⟨i, hi, rfl⟩ := List.getElem_of_mem hy
        have hl := h2.len
        rw [List.length_map] at hl
        have hi' : i < ls.length := by omega
        obtain ⟨y', e5, r'⟩ := h2.get (i := i) (v := tupI ls[i]) (by rw [List.getElem?_map, List.getElem?_eq_getElem hi']; rfl)
        rw [List.getElem?_eq_getElem hi] at e5
        cases e5
        have c2 := List.all_eq_true.mp c ls[i] (List.getElem_mem _)
        rw [decide_eq_true_eq] at c2
        exact ⟨ls[i], by rw [F.K]; exact tupI_rv r', by omega⟩
      · rw [if_neg c] at h; exact h.elim
end
end Nf

namespace Nf
open PySem PySem.Spec PyProof.Rows L2
section
variable {z : Cz} {W : Wx} {X : Cx} {L L0 : Lk} {H H0 : Hp} {t t0 : Tin} {R : Rr} {pos p : Pos} {env : Env} {σ : List (Option V)} {e : Expr} {fe fi f : E}

/-! ### tables of the frame's own -/
theorem ownD_some {i : Nat} {d : List Int × List Val} (e : Nf.ownD i env = some d) : env[i]? = some (some (true, .dct d.1 d.2)) := by
  unfold Nf.ownD at e
  split at e
  · rename_i ks vs h
    cases e; exact h
  · cases e
theorem Keep.atD {p : Addr} {o : HO} {zs : List (Key × V)} (hl : ¬ L p) (hp : H p = some (.dK zs)) : Keep L H L (L2.upd H p o) := by
  refine ⟨fun _ h => h, fun a u e c => ?_⟩
  have n : a ≠ p := fun e' => by
    subst e'
    rw [hp] at e; cases e
    rcases c with c | ⟨_, c⟩ | ⟨_, _, c⟩
    · exact hl c
    · cases c
    · cases c
  rw [upd_ne n]; exact e
/-- a table of the frame's own is changed -/
theorem RelS.ownD {i : Nat} {d : List Int × List Val} (r : RelS z L0 H0 t0 L env t σ H) (e : Nf.ownD i env = some d) : ∃ a zs, σ[i]? = some (some (.ref a)) ∧ H a = some (.dK zs) ∧ zs.map (·.1) = d.1.map Sum.inl ∧ Rvs z L H d.2 (zs.map (·.2)) ∧
    ∀ d' zs', zs'.map (·.1) = d'.1.map Sum.inl → Rvs z L H d'.2 (zs'.map (·.2)) → RelS z L0 H0 t0 L (putD i d' env) t σ (upd H a (.dK zs')) ∧ Keep L H L (upd H a (.dK zs')) := by
  have e := ownD_some e
  obtain ⟨oa, h1, h2⟩ := r.own
  obtain ⟨eσ, nl, n0, nta, ov⟩ := h1 i _ e
  obtain ⟨zs, hy, hk, ry⟩ := ov
  refine ⟨oa i, zs, eσ, hy, hk, ry, fun d' zs' k' r' => ?_⟩
  have kk : Keep L H L (upd H (oa i) (.dK zs')) := Keep.atD nl hy
  have hi : i < env.length := by
    rcases Nat.lt_or_ge i env.length with h | h
    · exact h
    · rw [List.getElem?_eq_none h] at e; cases e
  refine ⟨?_, kk⟩
  refine ⟨⟨r.base.1, r.base.2.1, fun a o ha hta => ?_, r.base.2.2.2⟩, ⟨fun a la => ?_, fun a ea => ⟨(r.ok.2 a ea).1, ?_⟩⟩, ?_, fun j v ej => ?_, oa, fun j v ej => ?_, fun j k v w ej ek n => ?_⟩
  · have n : a ≠ oa i := fun q => by subst q; rw [n0] at ha; cases ha
    rw [upd_ne n]; exact r.base.2.2.1 a o ha hta
  · by_cases n : a = oa i
    · subst n; exact ⟨_, upd_same⟩
    · rw [upd_ne n]; exact r.ok.1 a la
  · have n : a ≠ oa i := fun q => by subst q; exact nta ea
    rw [upd_ne n]; exact (r.ok.2 a ea).2
  · unfold putD; rw [List.length_set]; exact r.len
  · unfold putD at ej
    by_cases q : i = j
    · subst q; rw [getElem?_set_self' hi] at ej; cases ej
    · rw [getElem?_set_ne' q] at ej
      obtain ⟨x, hx, rx⟩ := r.val j v ej
      exact ⟨x, hx, Rv.keep kk v rx⟩
  · unfold putD at ej
    by_cases q : i = j
    · subst q
      rw [getElem?_set_self' hi] at ej; cases ej
      exact ⟨eσ, nl, n0, nta, zs', upd_same, k', Rvs.keep kk _ r'⟩
    · rw [getElem?_set_ne' q] at ej
      obtain ⟨a1, a2, a3, a4, a5⟩ := h1 j v ej
      have n : oa j ≠ oa i := h2 j i v _ ej e (Ne.symm q)
      exact ⟨a1, a2, a3, a4, a5.keep kk fun o eo => by rw [upd_ne n]; exact eo⟩
  · unfold putD at ej ek
    have fix : ∀ {j : Nat} {v : Val}, (env.set i (some (true, .dct d'.1 d'.2)))[j]? = some (some (true, v)) → ∃ v', env[j]? = some (some (true, v')) := fun {j v} ej => by
      by_cases q : i = j
      · subst q; exact ⟨_, e⟩
      · rw [getElem?_set_ne' q] at ej; exact ⟨_, ej⟩
    obtain ⟨v', e1⟩ := fix ej
    obtain ⟨w', e2⟩ := fix ek
    exact h2 j k v' w' e1 e2 n
/-- a pair is put -/
theorem dRep_rvs {k : Int} {w : Val} {y : V} (rw' : Rv z L H w y) : ∀ {ks : List Int} {vs : List Val} {zs : List (Key × V)}, zs.map (·.1) = ks.map Sum.inl → Rvs z L H vs (zs.map (·.2)) →
    Rvs z L H (dRep k w ks vs) ((zs.map fun kv => if kv.1 = (Sum.inl k : Key) then (kv.1, y) else kv).map (·.2))
  | [], vs, zs, h, r => by
    simp only [List.map_nil, List.map_eq_nil_iff] at h
    subst h
    simp only [List.map_nil, Rvs] at r ⊢
    cases vs with
    | nil => simp [dRep, Rvs]
    | cons v vs => simp only [Rvs] at r; obtain ⟨_, _, e, _⟩ := r; cases e
  | j :: ks, vs, [], h, r => by simp at h
  | j :: ks, [], q :: zs, h, r => by simp only [List.map_cons, Rvs] at r; cases r
  | j :: ks, v :: vs, q :: zs, h, r => by
    simp only [List.map_cons, List.cons.injEq] at h
    simp only [List.map_cons, Rvs] at r
    obtain ⟨y', r', e0, h1, h2⟩ := r
    cases e0
    simp only [dRep, List.map_cons]
    by_cases c : j = k
    · rw [if_pos c, if_pos (by rw [h.1, c])]
      exact Rvs.cons rw' (dRep_rvs rw' h.2 h2)
    · rw [if_neg c, if_neg (fun q => c (by rw [h.1] at q; exact Sum.inl.inj q))]
      exact Rvs.cons h1 (dRep_rvs rw' h.2 h2)
theorem rep_keys (k : Key) (y : V) (zs : List (Key × V)) : (zs.map fun kv => if kv.1 = k then (kv.1, y) else kv).map (·.1) = zs.map (·.1) := by
  rw [List.map_map]
  apply List.map_congr_left
  intro q _
  simp only [Function.comp]
  split <;> rfl
theorem dPut_rel {k : Int} {w : Val} {y : V} {ks : List Int} {vs : List Val} {zs : List (Key × V)} (rw' : Rv z L H w y) (h : zs.map (·.1) = ks.map Sum.inl) (r : Rvs z L H vs (zs.map (·.2))) :
    (putK zs (Sum.inl k) y).map (·.1) = (dPut k w ks vs).1.map Sum.inl ∧ Rvs z L H (dPut k w ks vs).2 ((putK zs (Sum.inl k) y).map (·.2)) := by
  have e : (zs.any fun kv => decide (kv.1 = (Sum.inl k : Key))) = dHas k ks := by rw [valV_any]; exact valV_has k h
  unfold putK dPut
  rw [e]
  cases dHas k ks with
  | true =>
    simp only [if_true]
    exact ⟨by rw [rep_keys]; exact h, dRep_rvs rw' h r⟩
  | false =>
    simp only [Bool.false_eq_true, if_false]
    refine ⟨by simp [h], ?_⟩
    rw [List.map_append]
    exact Rvs.append r (Rvs.cons rw' Rvs.nil)
/-- {} -/
theorem xdnew : PE X (.Dict [] [] pos) (rd z W (RN z) eDNew) := pe_dnewK.imp fun σ H Q h => by
  obtain ⟨L0, H0, t0, L, env, t, r, h⟩ := h
  intro q hq
  have g := Go.upd (o := .dK []) r.ok hq
  refine h _ _ L g ⟨q, rfl, hq, fun l => ?_, [], upd_same, rfl, Rvs.nil⟩
  obtain ⟨u, eu⟩ := r.ok.1 q l
  rw [hq] at eu; cases eu
/-- name[ix] = e, a table -/
theorem xdset [F : Fit z X] (i : Nat) {x : PySem.Str} {ix : Expr} {spos : Pos} (he : PE X e (rd z W (RE z) fe)) (hi : PE X ix (rd z W (RO z) fi)) (hN : X.N[i]? = some x := by rfl) (hv : Vis X.env.scope x := by first | exact Or.inl rfl | exact Or.inr (Or.inl rfl) | exact Or.inr (Or.inr rfl)) (hd : (x == ("__debug__" : PySem.Str)) = false := by decide) (hcd : (x == ("__classdict__" : PySem.Str)) = false := by decide)
    (hs : swapsWith e (some (.Subscript (.Name x p) ix spos)) pos.line X.env = pure false := by rfl) :
    PS X (.Assign [.Subscript (.Name x p) ix spos] e pos) (rdX z W (sDSet i fi fe)) := by
  refine (ps_dput (by have := F.hu; omega) (pe_var hN hv hd hcd) hi he hs).imp fun D σ H h => ?_
  obtain ⟨L0, H0, t0, L, env, t, r, h⟩ := h
  simp only [sDSet] at h
  cases e2 : Nf.ownD i env with
  | none => rw [e2] at h; exact h.elim
  | some d =>
    rw [e2] at h
    simp only at h
    refine ⟨L0, H0, t0, L, env, t, r, ?_⟩
    cases e : fe env t with
    | bad => rw [e] at h; exact h
    | exc k t' => rw [e] at h; exact fun H' L' g => h H' L' (r.base'.trans g)
    | ok v t1 =>
      rw [e] at h
      simp only [Res.toS_ok] at h
      intro y H1 L1 g1 rv
      have r1 := r.go g1
      obtain ⟨a, zs, hσ, _, _, _, _⟩ := r1.ownD e2
      refine ⟨_, hσ, L0, H0, t0, L1, env, t1, r1, ?_⟩
      cases e3 : fi env t1 with
      | bad => rw [e3] at h; exact h
      | exc k t' => rw [e3] at h; exact fun H' L' g => h H' L' ((r.base'.trans g1).trans g)
      | ok w t2 =>
        rw [e3] at h
        simp only [Res.toS_ok] at h
        intro q H2 L2 g2 rw'
        have r2 := r1.go g2
        obtain ⟨a', zs', hσ', ha', hk', ry', up⟩ := r2.ownD e2
        rw [hσ] at hσ'; cases hσ'
        cases w <;> simp only at h <;> first | exact h.elim | skip
        rename_i k
        by_cases hl : d.1.length < lim
        · rw [if_pos hl] at h
          cases rw'.int
          obtain ⟨k1, k2⟩ := dPut_rel (k := k) (Rv.keep g2.keep v rv) hk' ry'
          obtain ⟨r3, k3⟩ := up _ _ k1 k2
          refine ⟨a, _, rfl, .inl ⟨zs', .inl k, ha', rfl, ?_, rfl⟩, h _ _ L2 r3 ((g1.trans g2).keep.trans k3)⟩
          have := congrArg List.length hk'
          simp only [List.length_map] at this
          rw [this]; exact Nat.lt_of_lt_of_le hl (by decide)
        · rw [if_neg hl] at h; exact h.elim
/-- name.setdefault(k, e) -/
theorem xdsetd [F : Fit z X] (i : Nat) {x : PySem.Str} {k : Expr} {apos cpos : Pos} (hk : PE X k (rd z W (RO z) fi)) (he : PE X e (rd z W (RE z) fe)) (m : M2 X (.Name x p) "setdefault" apos k e cpos) (hN : X.N[i]? = some x := by rfl) (hv : Vis X.env.scope x := by first | exact Or.inl rfl | exact Or.inr (Or.inl rfl) | exact Or.inr (Or.inr rfl)) (hd : (x == ("__debug__" : PySem.Str)) = false := by decide) (hcd : (x == ("__classdict__" : PySem.Str)) = false := by decide)
    (hsw : swapsWith (.Call (.Attribute (.Name x p) "setdefault" apos) [k, e] [] cpos) none pos.line X.env = pure false := by rfl) :
    PS X (.Expr (.Call (.Attribute (.Name x p) "setdefault" apos) [k, e] [] cpos) pos) (rdX z W (sDDef i fi fe)) := by
  refine (ps_expr (pe_dsetd (pe_var hN hv hd hcd) hk he m) hsw).imp fun D σ H h => ?_
  obtain ⟨L0, H0, t0, L, env, t, r, h⟩ := h
  simp only [sDDef] at h
  cases e2 : Nf.ownD i env with
  | none => rw [e2] at h; exact h.elim
  | some d =>
    rw [e2] at h
    simp only at h
    obtain ⟨a, zs, hσ, ha, _, _, _⟩ := r.ownD e2
    refine ⟨_, hσ, a, rfl, .inl ⟨zs, .inl ha⟩, L0, H0, t0, L, env, t, r, ?_⟩
    cases e : fi env t with
    | bad => rw [e] at h; exact h
    | exc k t' => rw [e] at h; exact fun H' L' g => h H' L' (r.base'.trans g)
    | ok w t1 =>
      rw [e] at h
      simp only [Res.toS_ok] at h
      intro y H1 L1 g1 rw'
      have r1 := r.go g1
      refine ⟨L0, H0, t0, L1, env, t1, r1, ?_⟩
      cases e3 : fe env t1 with
      | bad => rw [e3] at h; exact h
      | exc k t' => rw [e3] at h; exact fun H' L' g => h H' L' ((r.base'.trans g1).trans g)
      | ok v t2 =>
        rw [e3] at h
        simp only [Res.toS_ok] at h
        intro q H2 L2 g2 rv
        have r2 := r1.go g2
        obtain ⟨a', zs', hσ', ha', hk', ry', up⟩ := r2.ownD e2
        rw [hσ] at hσ'; cases hσ'
        cases w <;> simp only at h <;> first | exact h.elim | skip
        rename_i k
        by_cases hl : d.1.length < lim
        · rw [if_pos hl] at h
          cases rw'.int
          refine ⟨zs', .inl k, ha', rfl, ?_, fun v0 hv0 => ?_, fun hn => ?_⟩
          · have := congrArg List.length hk'
            simp only [List.length_map] at this
            rw [this]; exact Nat.lt_of_lt_of_le hl (by decide)
          · have hh : dHas k d.1 = true := by rw [← valV_has k hk', hv0]; rfl
            rw [hh, if_pos rfl] at h
            exact h _ _ L2 r2 (g1.trans g2).keep
          · have hh : dHas k d.1 = false := by rw [← valV_has k hk', hn]; rfl
            rw [hh, if_neg (by decide)] at h
            obtain ⟨r3, k3⟩ := up (d.1 ++ [k], d.2 ++ [v]) (putK zs' (Sum.inl k) q) (by rw [putK_new q hn]; simp [hk']) (by rw [putK_new q hn, List.map_append]; exact Rvs.append ry' (Rvs.cons rv Rvs.nil))
            exact h _ _ L2 r3 ((g1.trans g2).keep.trans k3)
        · rw [if_neg hl] at h; exact h.elim
/-- sorted(d) of a table with few numbers for keys -/
theorem xsortD [F : Fit z X] (hg : Gl X "sorted") (hm : X.mg "sorted" = none) (he : PE X e (rd z W (RO z) f))
    (hs1 : starEach [e] X.env = (false, eval e X.env) :: starEach [] X.env := by rfl) :
    PE X (.Call (.Name "sorted" p) [e] [] pos) (rd z W (RN z) (eSortD f)) := by
  refine (pe_callB (call_sortedDI F.calm) hg hm (by decide +kernel) (pa_cons he pa_nil hs1) (by decide) (by decide) hs1 rfl).imp fun σ H Q h => ?_
  obtain ⟨L0, H0, t0, L, env, t, r, h⟩ := h
  refine ⟨L0, H0, t0, L, env, t, r, ?_⟩
  simp only [eSortD] at h
  cases e : f env t with
  | bad => rw [e] at h; exact h
  | exc k t' => rw [e] at h; exact h
  | ok v t1 =>
    rw [e] at h
    simp only [Res.bind_ok] at h
    intro x H1 L1 g1 rx
    cases v <;> simp only at h <;> first | exact h.elim | skip
    rename_i ks vs
    by_cases c : ks.length < 64
    · rw [if_pos c] at h
      obtain ⟨a, zs, rfl, h1, h2, h3⟩ := (RO.go (.refl g1.ok) rx : RO z L1 H1 L1 H1 _ _).dct
      refine ⟨a, zs, ks, rfl, .inl h1, h2, c, fun ys q hp hs hq => ?_⟩
      have e4 : ys = sortI ks := sorted_eq (hp.trans (sortI_perm ks).symm) hs (sortI_sorted ks)
      rw [e4]
      exact newN g1.ok (Rvs.ofInts _) (fun u H' L' g2 r2 => h u H' L' (g1.trans g2) (RN.back.go g1 r2)) hq
    · rw [if_neg c] at h; exact h.elim
end
end Nf

/-! for x in xs: d.setdefault(key, []).append(x) -/
namespace Nf
open PySem PySem.Spec PyProof.Rows L2
section
variable {z : Cz} {W : Wx} {X : Cx} {L L0 : Lk} {H H0 : Hp} {t t0 : Tin} {R : Rr} {pos p : Pos} {env : Env} {σ : List (Option V)} {e : Expr} {fe fi f : E}
/-- what nobody reads here is changed -/
theorem RelS.updFree {x : Addr} {o o' : HO} (r : RelS z L0 H0 t0 L env t σ H) (hx : H x = some o') (ho : (∃ ys, o' = .lst ys) ∨ ∃ zs, o' = .dK zs) (nl : ¬ L x) (n0 : H0 x = none) (nta : z.ta ≠ some x)
    (hd : ∀ (j : Nat) (v : Val), env[j]? = some (some (true, v)) → σ[j]? ≠ some (some (V.ref x))) : RelS z L0 H0 t0 L env t σ (upd H x o) ∧ Keep L H L (upd H x o) := by
  have kk : Keep L H L (upd H x o) := by
    rcases ho with ⟨ys, rfl⟩ | ⟨zs, rfl⟩
    · exact Keep.at nl hx
    · exact Keep.atD nl hx
  obtain ⟨oa, h1, h2⟩ := r.own
  refine ⟨⟨⟨r.base.1, r.base.2.1, fun a o ha hta => ?_, r.base.2.2.2⟩, ⟨fun a la => ?_, fun a ea => ⟨(r.ok.2 a ea).1, ?_⟩⟩, r.len, fun j v ej => ?_, oa, fun j v ej => ?_, h2⟩, kk⟩
  · have n : a ≠ x := fun q => by subst q; rw [n0] at ha; cases ha
    rw [upd_ne n]; exact r.base.2.2.1 a o ha hta
  · have n : a ≠ x := fun q => by subst q; exact nl la
    rw [upd_ne n]; exact r.ok.1 a la
  · have n : a ≠ x := fun q => by subst q; exact nta ea
    rw [upd_ne n]; exact (r.ok.2 a ea).2
  · obtain ⟨y, hy, ry⟩ := r.val j v ej
    exact ⟨y, hy, Rv.keep kk v ry⟩
  · obtain ⟨a1, a2, a3, a4, a5⟩ := h1 j v ej
    have n : oa j ≠ x := fun q => hd j v ej (by rw [a1, q])
    exact ⟨a1, a2, a3, a4, a5.keep kk fun o eo => by rw [upd_ne n]; exact eo⟩
/-- what nobody reads is locked -/
theorem RelS.lockSet (B : Addr → Prop) (r : RelS z L0 H0 t0 L env t σ H) (hB : ∀ x, B x → H0 x = none ∧ z.ta ≠ some x ∧ (∃ o, H x = some o) ∧ ∀ (j : Nat) (v : Val), env[j]? = some (some (true, v)) → σ[j]? ≠ some (some (V.ref x))) :
    RelS z L0 H0 t0 (fun x => L x ∨ B x) env t σ H ∧ Keep L H (fun x => L x ∨ B x) H := by
  have kk : Keep L H (fun x => L x ∨ B x) H := ⟨fun _ h => .inl h, fun _ _ h _ => h⟩
  obtain ⟨oa, h1, h2⟩ := r.own
  refine ⟨⟨⟨fun a h => .inl (r.base.1 a h), fun a h => ?_, r.base.2.2.1, r.base.2.2.2⟩, ⟨fun a la => ?_, fun a ea => ⟨fun la => ?_, (r.ok.2 a ea).2⟩⟩, r.len, fun j v ej => ?_, oa, fun j v ej => ?_, h2⟩, kk⟩
  · rcases h with h | h
    · exact r.base.2.1 a h
    · exact .inr (hB a h).1
  · rcases la with h | h
    · exact r.ok.1 a h
    · exact (hB a h).2.2.1
  · rcases la with h | h
    · exact (r.ok.2 a ea).1 h
    · exact (hB a h).2.1 ea
  · obtain ⟨y, hy, ry⟩ := r.val j v ej
    exact ⟨y, hy, Rv.keep kk v ry⟩
  · obtain ⟨a1, a2, a3, a4, a5⟩ := h1 j v ej
    refine ⟨a1, fun la => ?_, a3, a4, a5.keep kk fun o eo => eo⟩
    rcases la with h | h
    · exact a2 h
    · exact (hB _ h).2.2.2 j v ej a1
theorem grp_first {k : Int} {x : Val} : ∀ {ks : List Int} {zs : List (Key × V)} {bs : List Addr} {v : V}, zs.map (·.1) = ks.map Sum.inl → zs.map (·.2) = bs.map V.ref → valV zs (.inl k) = some v →
    ∃ n b, bs[n]? = some b ∧ v = .ref b ∧ ∀ ls : List (List Val), ls.length = ks.length → grpAt k x ks ls = ls.modify n (· ++ [x])
  | ks, [], bs, v, h, g, e => by simp [valV] at e
  | [], q :: zs, bs, v, h, g, e => by simp at h
  | j :: ks, q :: zs, [], v, h, g, e => by simp at g
  | j :: ks, q :: zs, b :: bs, v, h, g, e => by
    simp only [List.map_cons, List.cons.injEq] at h g
    by_cases c : j = k
    · rw [valV_pos (by rw [h.1, c])] at e
      cases e
      refine ⟨0, b, rfl, g.1, fun ls hl => ?_⟩
      cases ls with
      | nil => simp at hl
      | cons l ls => simp [grpAt, c]
    · rw [valV_neg (fun q => c (by rw [h.1] at q; exact Sum.inl.inj q))] at e
      obtain ⟨n, b', h1, h2, h3⟩ := grp_first (x := x) h.2 g.2 e
      refine ⟨n + 1, b', by simpa using h1, h2, fun ls hl => ?_⟩
      cases ls with
      | nil => simp at hl
      | cons l ls => simp [grpAt, c, h3 ls (by simpa using hl)]
structure LotsInv (z : Cz) (L0 : Lk) (H0 : Hp) (t0 : Tin) (i : Nat) (a : Addr) (ks : List Int) (ls : List (List Val)) (bs : List Addr) (L : Lk) (env : Env) (t : Tin) (σ : List (Option V)) (H : Hp) : Prop where
  rel : RelS z L0 H0 t0 L env t σ H
  slot : σ[i]? = some (some (.ref a))
  non : env[i]? = some none
  dk : ∃ zs, H a = some (.dK zs) ∧ zs.map (·.1) = ks.map Sum.inl ∧ zs.map (·.2) = bs.map V.ref
  own : ∀ x, x = a ∨ x ∈ bs → H0 x = none ∧ ¬ L x ∧ z.ta ≠ some x ∧ ∀ (j : Nat) (v : Val), env[j]? = some (some (true, v)) → σ[j]? ≠ some (some (V.ref x))
  nd : a ∉ bs ∧ bs.Nodup
  lenb : bs.length = ls.length
  inn : ∀ (n : Nat) (b : Addr), bs[n]? = some b → ∃ l ys, ls[n]? = some l ∧ H b = some (.lst ys) ∧ Rvs z L H l ys
theorem LotsInv.lenk {i : Nat} {a : Addr} {ks : List Int} {ls : List (List Val)} {bs : List Addr} (v : LotsInv z L0 H0 t0 i a ks ls bs L env t σ H) : ks.length = ls.length := by
  obtain ⟨zs, _, h1, h2⟩ := v.dk
  have e1 := congrArg List.length h1
  have e2 := congrArg List.length h2
  simp only [List.length_map] at e1 e2
  rw [← v.lenb]; omega
/-- the world goes on -/
theorem LotsInv.go {i : Nat} {a : Addr} {ks : List Int} {ls : List (List Val)} {bs : List Addr} {L' : Lk} {H' : Hp} {t' : Tin} (v : LotsInv z L0 H0 t0 i a ks ls bs L env t σ H) (g : Go z L H t L' H' t') : LotsInv z L0 H0 t0 i a ks ls bs L' env t' σ H' := by
  obtain ⟨zs, hz, h1, h2⟩ := v.dk
  have nt : ∀ x, x = a ∨ x ∈ bs → z.ta ≠ some x := fun x h => (v.own x h).2.2.1
  have there : ∀ x, x = a ∨ x ∈ bs → ∃ o, H x = some o := fun x h => by
    rcases h with rfl | h
    · exact ⟨_, hz⟩
    · obtain ⟨n, hn, e⟩ := List.getElem_of_mem h
      obtain ⟨l, ys, _, h4, _⟩ := v.inn n x (by rw [List.getElem?_eq_getElem hn, e])
      exact ⟨_, h4⟩
  refine ⟨v.rel.go g, v.slot, v.non, ⟨zs, g.stay a _ hz (nt a (.inl rfl)), h1, h2⟩, fun x h => ?_, v.nd, v.lenb, fun n b hb => ?_⟩
  · obtain ⟨a1, a2, a3, a4⟩ := v.own x h
    refine ⟨a1, fun l => ?_, a3, a4⟩
    rcases g.new x l with l | l
    · exact a2 l
    · obtain ⟨o, ho⟩ := there x h
      rw [ho] at l; cases l
  · obtain ⟨l, ys, h3, h4, h5⟩ := v.inn n b hb
    exact ⟨l, ys, h3, g.stay b _ h4 (nt b (.inr (List.mem_of_getElem? hb))), Rvs.keep g.keep l h5⟩
/-- the target takes a value -/
theorem LotsInv.put {i j : Nat} {a : Addr} {ks : List Int} {ls : List (List Val)} {bs : List Addr} {v : Val} {x : V} (q : LotsInv z L0 H0 t0 i a ks ls bs L env t σ H) (hv : Rv z L H v x) (hj : j < env.length) (ne : i ≠ j) : LotsInv z L0 H0 t0 i a ks ls bs L (env.set j (some (false, v))) t (σ.set j (some x)) H := by
  refine ⟨q.rel.put hv hj, by rw [getElem?_set_ne' (Ne.symm ne)]; exact q.slot, by rw [getElem?_set_ne' (Ne.symm ne)]; exact q.non, q.dk, fun x h => ?_, q.nd, q.lenb, q.inn⟩
  obtain ⟨a1, a2, a3, a4⟩ := q.own x h
  refine ⟨a1, a2, a3, fun k w ek => ?_⟩
  by_cases c : j = k
  · subst c; rw [getElem?_set_self' hj] at ek; cases ek
  · rw [getElem?_set_ne' c] at ek ⊢; exact a4 k w ek
/-- one more in a lot that is there -/
theorem LotsInv.more {i : Nat} {a : Addr} {ks : List Int} {ls : List (List Val)} {bs : List Addr} {k : Int} {v : Val} {y : V} {b : Addr} {n : Nat} (q : LotsInv z L0 H0 t0 i a ks ls bs L env t σ H) (hb : bs[n]? = some b) (hg : grpAt k v ks ls = ls.modify n (· ++ [v])) (ry : Rv z L H v y) :
    ∃ ys, H b = some (.lst ys) ∧ (ys.length < lim → LotsInv z L0 H0 t0 i a ks (grpAt k v ks ls) bs L env t σ (upd H b (.lst (ys ++ [y]))) ∧ Keep L H L (upd H b (.lst (ys ++ [y])))) ∧ ∃ l, ls[n]? = some l ∧ l.length = ys.length := by
  obtain ⟨l, ys, h3, h4, h5⟩ := q.inn n b hb
  refine ⟨ys, h4, fun hl => ?_, l, h3, h5.len.symm⟩
  have mb : b ∈ bs := List.mem_of_getElem? hb
  obtain ⟨a1, a2, a3, a4⟩ := q.own b (.inr mb)
  obtain ⟨r2, kk⟩ := q.rel.updFree (o := .lst (ys ++ [y])) h4 (.inl ⟨_, rfl⟩) a2 a1 a3 a4
  obtain ⟨zs, hz, h1, h2⟩ := q.dk
  have nab : a ≠ b := fun e => q.nd.1 (by rw [e]; exact mb)
  refine ⟨⟨r2, q.slot, q.non, ⟨zs, by rw [upd_ne nab]; exact hz, h1, h2⟩, q.own, q.nd, by rw [hg, List.length_modify]; exact q.lenb, fun m c hc => ?_⟩, kk⟩
  by_cases e : n = m
  · subst e
    rw [hb] at hc; cases hc
    refine ⟨l ++ [v], ys ++ [y], ?_, upd_same, Rvs.append (Rvs.keep kk l h5) (Rvs.cons (Rv.keep kk v ry) Rvs.nil)⟩
    rw [hg, List.getElem?_modify, h3]; simp
  · obtain ⟨l', ys', g3, g4, g5⟩ := q.inn m c hc
    have ncb : c ≠ b := fun ec => by
      subst ec
      have hn : n < bs.length := by
        rcases Nat.lt_or_ge n bs.length with h | h
        · exact h
        · rw [List.getElem?_eq_none h] at hb; cases hb
      have hm : m < bs.length := by
        rcases Nat.lt_or_ge m bs.length with h | h
        · exact h
        · rw [List.getElem?_eq_none h] at hc; cases hc
      rw [List.getElem?_eq_getElem hn] at hb
      rw [List.getElem?_eq_getElem hm] at hc
      have pw := List.pairwise_iff_getElem.mp q.nd.2
      have eq : bs[n] = bs[m] := by rw [Option.some.inj hb, Option.some.inj hc]
      rcases Nat.lt_trichotomy n m with h | h | h
      · exact pw n m hn hm h eq
      · exact e h
      · exact pw m n hm hn h eq.symm
    refine ⟨l', ys', ?_, by rw [upd_ne ncb]; exact g4, Rvs.keep kk l' g5⟩
    rw [hg, List.getElem?_modify, g3]; simp [e]
/-- a new lot -/
theorem LotsInv.fresh {i : Nat} {a b : Addr} {ks : List Int} {ls : List (List Val)} {bs : List Addr} {zs : List (Key × V)} {k : Int} (q : LotsInv z L0 H0 t0 i a ks ls bs L env t σ H) (hb : H b = none) (hz : H a = some (.dK zs)) (hn : valV zs (.inl k) = none) :
    LotsInv z L0 H0 t0 i a (ks ++ [k]) (ls ++ [[]]) (bs ++ [b]) L env t σ (upd (upd H b (.lst [])) a (.dK (putK zs (.inl k) (.ref b)))) ∧ Keep L H L (upd (upd H b (.lst [])) a (.dK (putK zs (.inl k) (.ref b)))) := by
  have g := Go.upd (o := .lst []) q.rel.ok hb
  have q1 := q.go g
  have nab : a ≠ b := fun e => by subst e; rw [hz] at hb; cases hb
  have hz1 : upd H b (.lst []) a = some (.dK zs) := by rw [upd_ne nab]; exact hz
  obtain ⟨a1, a2, a3, a4⟩ := q1.own a (.inl rfl)
  obtain ⟨r2, kk⟩ := q1.rel.updFree (o := .dK (putK zs (.inl k) (.ref b))) hz1 (.inr ⟨_, rfl⟩) a2 a1 a3 a4
  obtain ⟨zs', hz', h1, h2⟩ := q.dk
  rw [hz] at hz'; cases hz'
  have nbs : b ∉ bs := fun h => by
    obtain ⟨n, hn, e⟩ := List.getElem_of_mem h
    obtain ⟨l, ys, _, h4, _⟩ := q.inn n b (by rw [List.getElem?_eq_getElem hn, e])
    rw [hb] at h4; cases h4
  refine ⟨⟨r2, q.slot, q.non, ⟨_, upd_same, by rw [putK_new _ hn]; simp [h1], by rw [putK_new _ hn]; simp [h2]⟩, fun x h => ?_, ⟨?_, ?_⟩, by simp [q.lenb], fun m c hc => ?_⟩, g.keep.trans kk⟩
  · have : (x = a ∨ x ∈ bs) ∨ x = b := by
      rcases h with h | h
      · exact .inl (.inl h)
      · rcases List.mem_append.mp h with h | h
        · exact .inl (.inr h)
        · exact .inr (by simpa using h)
    rcases this with h | rfl
    · exact q1.own x h
    · refine ⟨q.rel.base'.free hb, fun l => ?_, q.rel.ok.ta_ne hb, fun j v ej es => ?_⟩
      · obtain ⟨u, eu⟩ := q.rel.ok.1 x l
        rw [hb] at eu; cases eu
      · obtain ⟨oa, h3, _⟩ := q.rel.own
        obtain ⟨e1, _, _, _, o⟩ := h3 j v ej
        rw [e1] at es; cases es
        obtain ⟨u, eu⟩ := o.there
        rw [hb] at eu; cases eu
  · intro h
    rcases List.mem_append.mp h with h | h
    · exact q.nd.1 h
    · exact nab (by simpa using h)
  · rw [List.nodup_append]
    refine ⟨q.nd.2, by simp, fun x hx y hy => ?_⟩
    have : y = b := by simpa using hy
    subst this
    exact fun e => nbs (by rw [← e]; exact hx)
  · rcases Nat.lt_or_ge m bs.length with hm | hm
    · rw [List.getElem?_append_left hm] at hc
      obtain ⟨l', ys', g3, g4, g5⟩ := q1.inn m c hc
      have nca : c ≠ a := fun e => q.nd.1 (by rw [← e]; exact List.mem_of_getElem? hc)
      refine ⟨l', ys', ?_, by rw [upd_ne nca]; exact g4, Rvs.keep kk l' g5⟩
      rw [List.getElem?_append_left (by rw [← q.lenb]; exact hm)]; exact g3
    · rw [List.getElem?_append_right hm] at hc
      have hm0 : m - bs.length = 0 := by
        rcases Nat.eq_zero_or_pos (m - bs.length) with h | h
        · exact h
        · rw [List.getElem?_eq_none (by simp; omega)] at hc; cases hc
      rw [hm0] at hc
      simp only [List.getElem?_cons_zero, Option.some.injEq] at hc
      subst hc
      refine ⟨[], [], ?_, by rw [upd_ne (Ne.symm nab)]; exact upd_same, Rvs.nil⟩
      rw [List.getElem?_append_right (by rw [← q.lenb]; exact hm), ← q.lenb, hm0]; rfl
/-- all lots are given away, the table is the frame's own -/
theorem LotsInv.close {i : Nat} {a : Addr} {ks : List Int} {ls : List (List Val)} {bs : List Addr} (q : LotsInv z L0 H0 t0 i a ks ls bs L env t σ H) :
    ∃ L', RelS z L0 H0 t0 L' (env.set i (some (true, .dct ks (ls.map .lst)))) t σ H ∧ Keep L H L' H := by
  have hi : i < env.length := by
    rcases Nat.lt_or_ge i env.length with h | h
    · exact h
    · have := q.non; rw [List.getElem?_eq_none h] at this; cases this
  obtain ⟨r1, kk⟩ := q.rel.lockSet (fun x => x ∈ bs) fun x hx => by
    obtain ⟨a1, a2, a3, a4⟩ := q.own x (.inr hx)
    obtain ⟨n, hn, e⟩ := List.getElem_of_mem hx
    obtain ⟨l, ys, _, h4, _⟩ := q.inn n x (by rw [List.getElem?_eq_getElem hn, e])
    exact ⟨a1, a3, ⟨_, h4⟩, a4⟩
  obtain ⟨a1, a2, a3, a4⟩ := q.own a (.inl rfl)
  obtain ⟨zs, hz, h1, h2⟩ := q.dk
  have hv : Rvs z (fun x => L x ∨ x ∈ bs) H (ls.map .lst) (bs.map V.ref) := by
    have hl := q.lenb
    have hin := q.inn
    clear h2 q a4
    have key : ∀ (bs' : List Addr) (ls : List (List Val)), (∀ b ∈ bs', b ∈ bs) → bs'.length = ls.length → (∀ (n : Nat) (b : Addr), bs'[n]? = some b → ∃ l ys, ls[n]? = some l ∧ H b = some (.lst ys) ∧ Rvs z L H l ys) → Rvs z (fun x => L x ∨ x ∈ bs) H (ls.map .lst) (bs'.map V.ref) := by
      intro bs'
      induction bs' with
      | nil => intro ls _ hl _; cases ls with
        | nil => exact Rvs.nil
        | cons l ls => simp at hl
      | cons b bs' ih =>
        intro ls hm hl hin
        cases ls with
        | nil => simp at hl
        | cons l ls =>
          obtain ⟨l', ys, e1, e2, e3⟩ := hin 0 b rfl
          simp only [List.getElem?_cons_zero, Option.some.injEq] at e1
          subst e1
          refine Rvs.cons ?_ (ih ls (fun b hb => hm b (List.mem_cons_of_mem _ hb)) (by simpa using hl) fun n b hb => by simpa using hin (n + 1) b (by simpa using hb))
          simp only [Rv]
          exact ⟨b, ys, rfl, .inr (hm b List.mem_cons_self), e2, Rvs.keep kk l e3⟩
    exact key bs ls (fun _ h => h) hl hin
  have r2 := r1.putOwn (v0 := .dct ks (ls.map .lst)) hi ⟨zs, hz, h1, by rw [h2]; exact hv⟩ (fun l => l.elim a2 q.nd.1) a1 a3 a4
  have es : σ.set i (some (V.ref a)) = σ := by
    apply List.ext_getElem?
    intro j
    by_cases c : i = j
    · subst c
      rw [getElem?_set_self' (by rw [← q.rel.len]; exact hi), q.slot]
    · rw [getElem?_set_ne' c]
  rw [es] at r2
  exact ⟨_, r2, kk⟩
/-- the slot of a table is left alone -/
theorem LotsInv.start {i : Nat} (r : RelS z L0 H0 t0 L env t σ H) (e : Nf.ownD i env = some ([], [])) : ∃ a, LotsInv z L0 H0 t0 i a [] [] [] L (env.set i none) t σ H := by
  have e' := ownD_some e
  obtain ⟨oa, h1, h2⟩ := r.own
  obtain ⟨eσ, nl, n0, nta, ov⟩ := h1 i _ e'
  obtain ⟨zs, hz, hk, rk⟩ := ov
  have hi : i < env.length := by
    rcases Nat.lt_or_ge i env.length with h | h
    · exact h
    · rw [List.getElem?_eq_none h] at e'; cases e'
  have z0 : zs = [] := by
    have := congrArg List.length hk
    simpa using this
  subst z0
  have own' : ∀ (j : Nat) (v : Val), (env.set i none)[j]? = some (some (true, v)) → i ≠ j ∧ env[j]? = some (some (true, v)) := fun j v ej => by
    by_cases c : i = j
    · subst c; rw [getElem?_set_self' hi] at ej; cases ej
    · rw [getElem?_set_ne' c] at ej; exact ⟨c, ej⟩
  refine ⟨oa i, ⟨r.base, r.ok, by rw [List.length_set]; exact r.len, fun j v ej => ?_, oa, fun j v ej => h1 j v (own' j v ej).2, fun j k v w ej ek n => h2 j k v w (own' j v ej).2 (own' k w ek).2 n⟩, eσ, getElem?_set_self' hi, ⟨[], hz, rfl, rfl⟩, fun x hx => ?_, ⟨by simp, by simp⟩, rfl, fun n b hb => by simp at hb⟩
  · by_cases c : i = j
    · subst c; rw [getElem?_set_self' hi] at ej; cases ej
    · rw [getElem?_set_ne' c] at ej; exact r.val j v ej
  · have hx : x = oa i := by simpa using hx
    subst hx
    refine ⟨n0, nl, nta, fun j v ej es => ?_⟩
    obtain ⟨c, ej'⟩ := own' j v ej
    rw [(h1 j v ej').1] at es
    exact h2 j i v _ ej' e' (Ne.symm c) (by injection es with es; injection es with es; injection es)
end
end Nf
namespace Nf
open PySem PySem.Spec PyProof.Rows L2
section
variable {z : Cz} {W : Wx} {X : Cx} {L L0 : Lk} {H H0 : Hp} {t t0 : Tin} {R : Rr} {pos p : Pos} {env : Env} {σ : List (Option V)} {fk : E} {it : Nf.It}
theorem xforLots [F : Fit z X] (i j : Nat) {x y : PySem.Str} {iter k : Expr} {py p2 ap1 cp1 ap2 cp2 ep lp : Pos} (hp : PassesOwn (model X.prog X.w) X.A X.env X.xe) (hi : PI X (.Name y py) iter (rdI z W it)) (hnd : X.N.Nodup)
    (hk : PE X k (rd z W (RO z) fk)) (m : M2 X (.Name x p) "setdefault" ap1 k (.List [] lp) cp1)
    (hy : X.N[j]? = some y) (hyl : Loc X.env.scope y) (hx : X.N[i]? = some x) (hxv : Vis X.env.scope x) (hyv : Vis X.env.scope y)
    (hij : i ≠ j) (hxd : (x == ("__debug__" : PySem.Str)) = false) (hxc : (x == ("__classdict__" : PySem.Str)) = false) (hyd : (y == ("__debug__" : PySem.Str)) = false) (hyc : (y == ("__classdict__" : PySem.Str)) = false)
    (hbase : attributeBase (.Call (.Attribute (.Name x p) "setdefault" ap1) [k, .List [] lp] [] cp1) "append" X.env (eval (.Call (.Attribute (.Name x p) "setdefault" ap1) [k, .List [] lp] [] cp1) X.env) = eval (.Call (.Attribute (.Name x p) "setdefault" ap1) [k, .List [] lp] [] cp1) X.env := by rfl)
    (hfew : ((backTo cp2 (starEach [Expr.Name y p2] X.env)).all (fun x => !x.1) && (backToKw cp2 (keywordEach [] X.env)).all (fun x => x.1.isSome)
      && decide ([Expr.Name y p2].length + ([] : List Keyword).length + (if ([] : List Keyword).isEmpty then 0 else 1) < 30)) = true := by rfl)
    (hline : (ap2.endLine == cp2.line) = true := by rfl) (hs : starEach [Expr.Name y p2] X.env = (false, eval (Expr.Name y p2) X.env) :: starEach [] X.env := by rfl) (hplain : (backTo cp2 (starEach [] X.env)).any (·.1) = false := by rfl)
    (hsw : swapsWith (.Call (.Attribute (.Call (.Attribute (.Name x p) "setdefault" ap1) [k, .List [] lp] [] cp1) "append" ap2) [.Name y p2] [] cp2) none ep.line X.env = pure false := by rfl)
    (hf : X.fn y = true ∨ X.env.scope.names.lookup y = some .local := by first | exact .inl rfl | exact .inr rfl | assumption)
    (hfs : ∀ x, foldedSetIterable iter X.env x = pure x := by intro _; rfl) :
    PS X (.For (.Name y py) iter [.Expr (.Call (.Attribute (.Call (.Attribute (.Name x p) "setdefault" ap1) [k, .List [] lp] [] cp1) "append" ap2) [.Name y p2] [] cp2) ep] [] pos) (rdX z W (sForLots it i j fk)) := by
  refine (ps_for hp F.calm hi (pg_name hnd hy hyl hf) (pss_one (ps_expr (pe_bm PySem.F.plainAttrs_list PySem.F.slot_list_append PySem.F.type_list_append L2.mt_append (pe_dsetd (pe_var hx hxv hxd hxc) hk (pe_lst pa_nil) m) (pa_cons (pe_var hy hyv hyd hyc) pa_nil hs) hbase hfew hline hs hplain) hsw)) hfs).imp fun D σ H h => ?_
  rw [rdX_eq] at h
  obtain ⟨L0, H0, t0, L, env, t, r, h⟩ := h
  refine ⟨L0, H0, t0, L, env, t, r, ?_⟩
  simp only [sForLots] at h
  cases e : it env t with
  | bad => rw [e] at h; exact h
  | exc k t' => rw [e] at h; exact fun H' L' g => h H' L' (r.base'.trans g)
  | ok xs t1 =>
    rw [e] at h
    simp only [Res.toS_ok] at h
    intro J H1 L1 g1 wk
    have e2 : Nf.ownD i env = some ([], []) := by
      split at h
      · assumption
      · exact h.elim
    rw [e2] at h
    simp only at h
    obtain ⟨a, q0⟩ := LotsInv.start (r.go g1) e2
    have h := h.keep g1.keep
    refine ⟨fun n m σ' H' => m = xs.length - n ∧ n ≤ xs.length ∧ ∃ L' env' t' ks ls bs, LotsInv z L0 H0 t0 i a ks ls bs L' env' t' σ' H' ∧ Keep L1 H1 L' H' ∧ Owe z W L0 H0 t0 L' H' D (lotsLoop i j fk (xs.drop n) ks ls env' t'), ⟨xs.length, by simp, by simp, L1, _, t1, [], [], [], q0, .refl _ _, h⟩, ?_⟩
    rintro n m σ2 H2 ⟨hm, hn, L2', env2, t2, ks, ls, bs, q2, k2, h2⟩
    have wki := wk n L2' H2 t2 q2.rel.ok k2
    by_cases hlt : n < xs.length
    · have hxn : xs[n]? = some xs[n] := List.getElem?_eq_getElem hlt
      obtain ⟨hgo, hyld⟩ := wki.1 _ hxn
      rw [List.drop_eq_getElem_cons hlt] at h2
      simp only [lotsLoop] at h2
      refine .inr ⟨hgo, fun σ' H' => ∃ m', m' < m ∧ m' = xs.length - (n + 1) ∧ n + 1 ≤ xs.length ∧ ∃ L' env' t' ks ls bs, LotsInv z L0 H0 t0 i a ks ls bs L' env' t' σ' H' ∧ Keep L1 H1 L' H' ∧ Owe z W L0 H0 t0 L' H' D (lotsLoop i j fk (xs.drop (n + 1)) ks ls env' t'), fun σ' H' h => h, fun u H3 hu => ?_⟩
      obtain ⟨L3, g3, ru⟩ := hyld u H3 hu
      by_cases c : j < env2.length ∧ (ls.all fun l => decide (l.length < lim)) = true ∧ ks.length < lim
      case neg => rw [if_neg c] at h2; exact h2.elim
      rw [if_pos c] at h2
      have q3 := (q2.go g3).put ru c.1 hij
      obtain ⟨zs, hz, hz1, hz2⟩ := q3.dk
      refine ⟨_, q3.slot, a, rfl, .inl ⟨zs, .inl hz⟩, L0, H0, t0, L3, _, t2, q3.rel, ?_⟩
      cases e3 : fk (env2.set j (some (false, xs[n]))) t2 with
      | bad => rw [e3] at h2; exact h2
      | exc k t' => rw [e3] at h2; exact fun H' L' g => h2 H' L' (q3.rel.base'.trans g)
      | ok kv t4 =>
        rw [e3] at h2
        simp only [Res.toS_ok] at h2
        intro w H4 L4 g4 rk
        have q4 := q3.go g4
        cases kv <;> simp only at h2 <;> first | exact h2.elim | skip
        rename_i key
        cases rk.int
        refine ⟨Nat.zero_le _, fun b hb => ?_⟩
        obtain ⟨zs4, hz4, hk4, hv4⟩ := q4.dk
        have nab : a ≠ b := fun e => by subst e; rw [hz4] at hb; cases hb
        have lenk : zs4.length < sizeLine := by
          have := congrArg List.length hk4
          simp only [List.length_map] at this
          rw [this]; exact Nat.lt_of_lt_of_le c.2.2 (by decide)
        have gb := Go.upd (o := .lst []) q4.rel.ok hb
        have hyσ : (σ2.set j (some u))[j]? = some (some u) := getElem?_set_self' (by rw [← q2.rel.len]; exact c.1)
        have ruE : Rv z L4 H4 xs[n] u := Rv.keep g4.keep _ ru
        have again : ∀ (ks' : List Int) (ls' : List (List Val)) (bs' : List Addr) (H' : Hp), LotsInv z L0 H0 t0 i a ks' ls' bs' L4 (env2.set j (some (false, xs[n]))) t4 (σ2.set j (some u)) H' → Keep L4 H4 L4 H' → Owe z W L0 H0 t0 L2' H2 D (lotsLoop i j fk (xs.drop (n + 1)) ks' ls' (env2.set j (some (false, xs[n]))) t4) →
            ∃ m', m' < m ∧ m' = xs.length - (n + 1) ∧ n + 1 ≤ xs.length ∧ ∃ L' env' t' ks ls bs, LotsInv z L0 H0 t0 i a ks ls bs L' env' t' (σ2.set j (some u)) H' ∧ Keep L1 H1 L' H' ∧ Owe z W L0 H0 t0 L' H' D (lotsLoop i j fk (xs.drop (n + 1)) ks ls env' t') := fun ks' ls' bs' H' q k ho =>
          ⟨xs.length - (n + 1), by omega, rfl, by omega, L4, _, t4, ks', ls', bs', q, k2.trans ((g3.trans g4).keep.trans k), ho.keep ((g3.trans g4).keep.trans k)⟩
        refine ⟨zs4, .inl key, by rw [upd_ne nab]; exact hz4, rfl, lenk, fun v0 hv0 => ?_, fun hn0 => ?_⟩
        · have hh : dHas key ks = true := by rw [← valV_has key hk4, hv0]; rfl
          rw [hh, if_pos rfl] at h2
          obtain ⟨n0, b0, f1, rfl, f3⟩ := grp_first (x := xs[n]) hk4 hv4 hv0
          have q5 := q4.go gb
          obtain ⟨ys, f4, f5, l0, f6, f7⟩ := q5.more f1 (f3 ls q5.lenk.symm) (Rv.keep gb.keep _ ruE)
          have hl0 : ys.length < lim := by
            have := List.all_eq_true.mp c.2.1 l0 (List.mem_of_getElem? f6)
            rw [decide_eq_true_eq] at this
            omega
          obtain ⟨q6, k6⟩ := f5 hl0
          refine ⟨.inl ⟨rfl, ys, .inl (.inl f4)⟩, _, hyσ, b0, ys, u, rfl, rfl, f4, Nat.lt_of_lt_of_le hl0 (by decide), ?_⟩
          exact again _ _ _ _ q6 (gb.keep.trans k6) h2
        · have hh : dHas key ks = false := by rw [← valV_has key hk4, hn0]; rfl
          rw [hh, if_neg (by decide)] at h2
          obtain ⟨q5, k5⟩ := q4.fresh (k := key) hb hz4 hn0
          have f1 : (bs ++ [b])[bs.length]? = some b := by simp
          have hdh : ∀ (ks : List Int) (ls : List (List Val)), dHas key ks = false → ks.length = ls.length → grpAt key xs[n] (ks ++ [key]) (ls ++ [[]]) = ls ++ [[xs[n]]] ∧ grpAt key xs[n] (ks ++ [key]) (ls ++ [[]]) = (ls ++ [[]]).modify ks.length (· ++ [xs[n]]) := by
            intro ks
            induction ks with
            | nil => intro ls _ hl; cases ls with
              | nil => simp [grpAt]
              | cons l ls => simp at hl
            | cons k0 ks ih =>
              intro ls hd hl
              cases ls with
              | nil => simp at hl
              | cons l ls =>
                simp only [dHas, List.any_cons, Bool.or_eq_false_iff, decide_eq_false_iff_not] at hd
                obtain ⟨i1, i2⟩ := ih ls (by simpa [dHas] using hd.2) (by simpa using hl)
                have nk : ¬ k0 = key := hd.1
                simp only [List.cons_append, grpAt, nk, if_false, List.length_cons, List.modify_succ_cons]
                exact ⟨by rw [i1], by rw [i2]⟩
          have hlk : bs.length = ks.length := by rw [q4.lenb, q4.lenk]
          obtain ⟨d1, d2⟩ := hdh ks ls hh q4.lenk
          obtain ⟨ys, f4, f5, l0, f6, f7⟩ := q5.more f1 (by rw [hlk]; exact d2) (Rv.keep k5 _ ruE)
          have hy0 : ys = [] := by
            rw [upd_ne (Ne.symm nab), upd_same] at f4
            cases f4; rfl
          subst hy0
          obtain ⟨q6, k6⟩ := f5 (by decide)
          refine ⟨.inl ⟨rfl, [], .inl (.inl f4)⟩, _, hyσ, b, [], u, rfl, rfl, f4, by decide, ?_⟩
          rw [d1] at q6
          exact again _ _ _ _ q6 (k5.trans k6) h2
    · have he : xs.drop n = [] := List.drop_eq_nil_of_le (by omega)
      rw [he] at h2
      simp only [lotsLoop] at h2
      obtain ⟨L3, r3, k3⟩ := q2.close
      exact .inl ⟨wki.2 (by omega), h2 σ2 H2 L3 r3 k3⟩
end
end Nf

namespace NfLaw
open PySem PySem.Spec PyProof.Rows L2 Nf
def top (i : Nat) : Stmt := PySem.Challenge.pw_neverfraction_k48_across_powers_by_chose.main.body.getD i (.Pass ⟨0, 0, 0, 0⟩)
def d_is_number : He.DefD := ⟨("is_number", none), "is_number", "is_number", defArgs (top 4), defBody (top 4), defScope (top 4), [], []⟩
def d_is_within : He.DefD := ⟨("is_within", none), "is_within", "is_within", defArgs (top 5), defBody (top 5), defScope (top 5), [], []⟩
def d_sure_within : He.DefD := ⟨("sure_within", none), "sure_within", "sure_within", defArgs (top 6), defBody (top 6), defScope (top 6), [], []⟩
def d_is_long : He.DefD := ⟨("is_long", none), "is_long", "is_long", defArgs (top 7), defBody (top 7), defScope (top 7), [], []⟩
def d_are_numbers : He.DefD := ⟨("are_numbers", none), "are_numbers", "are_numbers", defArgs (top 8), defBody (top 8), defScope (top 8), [], []⟩
def d_ascends : He.DefD := ⟨("ascends", none), "ascends", "ascends", defArgs (top 9), defBody (top 9), defScope (top 9), [], []⟩
def d_tupled : He.DefD := ⟨("tupled", none), "tupled", "tupled", defArgs (top 10), defBody (top 10), defScope (top 10), [], []⟩
def d_common_of : He.DefD := ⟨("common_of", none), "common_of", "common_of", defArgs (top 11), defBody (top 11), defScope (top 11), [], []⟩
def d_least_of : He.DefD := ⟨("least_of", none), "least_of", "least_of", defArgs (top 12), defBody (top 12), defScope (top 12), [], []⟩
def d_slim : He.DefD := ⟨("slim", none), "slim", "slim", defArgs (top 13), defBody (top 13), defScope (top 13), [], []⟩
def d_plus : He.DefD := ⟨("plus", none), "plus", "plus", defArgs (top 14), defBody (top 14), defScope (top 14), [], []⟩
def d_times : He.DefD := ⟨("times", none), "times", "times", defArgs (top 15), defBody (top 15), defScope (top 15), [], []⟩
def d_is_fraction : He.DefD := ⟨("is_fraction", none), "is_fraction", "is_fraction", defArgs (top 16), defBody (top 16), defScope (top 16), [], []⟩
def d_primes_of : He.DefD := ⟨("primes_of", none), "primes_of", "primes_of", defArgs (top 17), defBody (top 17), defScope (top 17), [], []⟩
def d_back_by : He.DefD := ⟨("back_by", none), "back_by", "back_by", defArgs (top 18), defBody (top 18), defScope (top 18), [], []⟩
def d_joined_rest : He.DefD := ⟨("joined_rest", none), "joined_rest", "joined_rest", defArgs (top 19), defBody (top 19), defScope (top 19), [], []⟩
def d_told_set : He.DefD := ⟨("told_set", none), "told_set", "told_set", defArgs (top 25), defBody (top 25), defScope (top 25), [], []⟩
def d_is_told : He.DefD := ⟨("is_told", none), "is_told", "is_told", defArgs (top 26), defBody (top 26), defScope (top 26), [], []⟩
def d_is_set : He.DefD := ⟨("is_set", none), "is_set", "is_set", defArgs (top 27), defBody (top 27), defScope (top 27), [], []⟩
def d_sure_set : He.DefD := ⟨("sure_set", none), "sure_set", "sure_set", defArgs (top 28), defBody (top 28), defScope (top 28), [], []⟩
def d_parts_of : He.DefD := ⟨("parts_of", none), "parts_of", "parts_of", defArgs (top 30), defBody (top 30), defScope (top 30), [], []⟩
def d_factorial_power : He.DefD := ⟨("factorial_power", none), "factorial_power", "factorial_power", defArgs (top 31), defBody (top 31), defScope (top 31), [], []⟩
def d_row_of : He.DefD := ⟨("row_of", none), "row_of", "row_of", defArgs (top 32), defBody (top 32), defScope (top 32), [], []⟩
def d_digit_of : He.DefD := ⟨("digit_of", none), "digit_of", "digit_of", defArgs (top 33), defBody (top 33), defScope (top 33), [], []⟩
def d_order_row : He.DefD := ⟨("order_row", none), "order_row", "order_row", defArgs (top 34), defBody (top 34), defScope (top 34), [], []⟩
def d_powers_row : He.DefD := ⟨("powers_row", none), "powers_row", "powers_row", defArgs (top 35), defBody (top 35), defScope (top 35), [], []⟩
def d_some_members : He.DefD := ⟨("some_members", none), "some_members", "some_members", defArgs (top 37), defBody (top 37), defScope (top 37), [], []⟩
def d_primes_in : He.DefD := ⟨("primes_in", none), "primes_in", "primes_in", defArgs (top 38), defBody (top 38), defScope (top 38), [], []⟩
def d_factorial_by : He.DefD := ⟨("factorial_by", none), "factorial_by", "factorial_by", defArgs (top 39), defBody (top 39), defScope (top 39), [], []⟩
def d_is_poly : He.DefD := ⟨("is_poly", none), "is_poly", "is_poly", defArgs (top 45), defBody (top 45), defScope (top 45), [], []⟩
def d_sure_poly : He.DefD := ⟨("sure_poly", none), "sure_poly", "sure_poly", defArgs (top 46), defBody (top 46), defScope (top 46), [], []⟩
def d_bare : He.DefD := ⟨("bare", none), "bare", "bare", defArgs (top 47), defBody (top 47), defScope (top 47), [], []⟩
def d_plus_in : He.DefD := ⟨("plus_in", none), "plus_in", "plus_in", defArgs (top 48), defBody (top 48), defScope (top 48), [], []⟩
def d_scaled_in : He.DefD := ⟨("scaled_in", none), "scaled_in", "scaled_in", defArgs (top 49), defBody (top 49), defScope (top 49), [], []⟩
def d_whole_row : He.DefD := ⟨("whole_row", none), "whole_row", "whole_row", defArgs (top 50), defBody (top 50), defScope (top 50), [], []⟩
def d_value_in : He.DefD := ⟨("value_in", none), "value_in", "value_in", defArgs (top 51), defBody (top 51), defScope (top 51), [], []⟩
def d_roots_product : He.DefD := ⟨("roots_product", none), "roots_product", "roots_product", defArgs (top 52), defBody (top 52), defScope (top 52), [], []⟩
def d_places_in : He.DefD := ⟨("places_in", none), "places_in", "places_in", defArgs (top 55), defBody (top 55), defScope (top 55), [], []⟩
def d_base_in : He.DefD := ⟨("base_in", none), "base_in", "base_in", defArgs (top 56), defBody (top 56), defScope (top 56), [], []⟩
def d_shares_in : He.DefD := ⟨("shares_in", none), "shares_in", "shares_in", defArgs (top 57), defBody (top 57), defScope (top 57), [], []⟩
def d_sum_in : He.DefD := ⟨("sum_in", none), "sum_in", "sum_in", defArgs (top 58), defBody (top 58), defScope (top 58), [], []⟩
def d_sure_low : He.DefD := ⟨("sure_low", none), "sure_low", "sure_low", defArgs (top 59), defBody (top 59), defScope (top 59), [], []⟩
def d_poly_shares : He.DefD := ⟨("poly_shares", none), "poly_shares", "poly_shares", defArgs (top 60), defBody (top 60), defScope (top 60), [], []⟩
def d_shares_sum : He.DefD := ⟨("shares_sum", none), "shares_sum", "shares_sum", defArgs (top 61), defBody (top 61), defScope (top 61), [], []⟩
def d_lowered : He.DefD := ⟨("lowered", none), "lowered", "lowered", defArgs (top 62), defBody (top 62), defScope (top 62), [], []⟩
def d_sure_values : He.DefD := ⟨("sure_values", none), "sure_values", "sure_values", defArgs (top 65), defBody (top 65), defScope (top 65), [], []⟩
def d_gaps_of : He.DefD := ⟨("gaps_of", none), "gaps_of", "gaps_of", defArgs (top 66), defBody (top 66), defScope (top 66), [], []⟩
def d_chosen_in : He.DefD := ⟨("chosen_in", none), "chosen_in", "chosen_in", defArgs (top 67), defBody (top 67), defScope (top 67), [], []⟩
def d_by_gaps : He.DefD := ⟨("by_gaps", none), "by_gaps", "by_gaps", defArgs (top 68), defBody (top 68), defScope (top 68), [], []⟩
def d_sum_of : He.DefD := ⟨("sum_of", none), "sum_of", "sum_of", defArgs (top 69), defBody (top 69), defScope (top 69), [], []⟩
def d_row_gaps : He.DefD := ⟨("row_gaps", none), "row_gaps", "row_gaps", defArgs (top 70), defBody (top 70), defScope (top 70), [], []⟩
def d_row_poly : He.DefD := ⟨("row_poly", none), "row_poly", "row_poly", defArgs (top 71), defBody (top 71), defScope (top 71), [], []⟩
def d_poly_row : He.DefD := ⟨("poly_row", none), "poly_row", "poly_row", defArgs (top 72), defBody (top 72), defScope (top 72), [], []⟩
def d_sum_poly : He.DefD := ⟨("sum_poly", none), "sum_poly", "sum_poly", defArgs (top 73), defBody (top 73), defScope (top 73), [], []⟩
def d_stretch_sum : He.DefD := ⟨("stretch_sum", none), "stretch_sum", "stretch_sum", defArgs (top 74), defBody (top 74), defScope (top 74), [], []⟩
def d_whole_shares_in : He.DefD := ⟨("whole_shares_in", none), "whole_shares_in", "whole_shares_in", defArgs (top 76), defBody (top 76), defScope (top 76), [], []⟩
def d_whole_shares : He.DefD := ⟨("whole_shares", none), "whole_shares", "whole_shares", defArgs (top 77), defBody (top 77), defScope (top 77), [], []⟩
def d__law_box : He.DefD := ⟨("_law_box", none), "_law_box", "_law_box", defArgs (top 79), defBody (top 79), defScope (top 79), [], []⟩
def d__law_take : He.DefD := ⟨("_law_take", none), "_law_take", "_law_take", defArgs (top 80), defBody (top 80), defScope (top 80), [], []⟩
def d__law_cells : He.DefD := ⟨("_law_cells", none), "_law_cells", "_law_cells", defArgs (top 81), defBody (top 81), defScope (top 81), [], []⟩
def d__law_same : He.DefD := ⟨("_law_same", none), "_law_same", "_law_same", defArgs (top 82), defBody (top 82), defScope (top 82), [], []⟩
def d__law_gcd : He.DefD := ⟨("_law_gcd", none), "_law_gcd", "_law_gcd", defArgs (top 83), defBody (top 83), defScope (top 83), [], []⟩
def d__law_slim : He.DefD := ⟨("_law_slim", none), "_law_slim", "_law_slim", defArgs (top 84), defBody (top 84), defScope (top 84), [], []⟩
def d__law_plus : He.DefD := ⟨("_law_plus", none), "_law_plus", "_law_plus", defArgs (top 85), defBody (top 85), defScope (top 85), [], []⟩
def d__law_times : He.DefD := ⟨("_law_times", none), "_law_times", "_law_times", defArgs (top 86), defBody (top 86), defScope (top 86), [], []⟩
def d__law_value : He.DefD := ⟨("_law_value", none), "_law_value", "_law_value", defArgs (top 87), defBody (top 87), defScope (top 87), [], []⟩
def d__law_size : He.DefD := ⟨("_law_size", none), "_law_size", "_law_size", defArgs (top 88), defBody (top 88), defScope (top 88), [], []⟩
def d__law_ways : He.DefD := ⟨("_law_ways", none), "_law_ways", "_law_ways", defArgs (top 89), defBody (top 89), defScope (top 89), [], []⟩
def d__law_right : He.DefD := ⟨("_law_right", none), "_law_right", "_law_right", defArgs (top 90), defBody (top 90), defScope (top 90), [], []⟩
def d_law : He.DefD := ⟨("law", none), "law", "law", defArgs (top 91), defBody (top 91), defScope (top 91), [], []⟩
def fn : List He.DefD := [d_is_number, d_is_within, d_sure_within, d_is_long, d_are_numbers, d_ascends, d_tupled, d_common_of, d_least_of, d_slim, d_plus, d_times, d_is_fraction, d_primes_of, d_back_by, d_joined_rest, d_told_set, d_is_told, d_is_set, d_sure_set, d_parts_of, d_factorial_power, d_row_of, d_digit_of, d_order_row, d_powers_row, d_some_members, d_primes_in, d_factorial_by, d_is_poly, d_sure_poly, d_bare, d_plus_in, d_scaled_in, d_whole_row, d_value_in, d_roots_product, d_places_in, d_base_in, d_shares_in, d_sum_in, d_sure_low, d_poly_shares, d_shares_sum, d_lowered, d_sure_values, d_gaps_of, d_chosen_in, d_by_gaps, d_sum_of, d_row_gaps, d_row_poly, d_poly_row, d_sum_poly, d_stretch_sum, d_whole_shares_in, d_whole_shares, d__law_box, d__law_take, d__law_cells, d__law_same, d__law_gcd, d__law_slim, d__law_plus, d__law_times, d__law_value, d__law_size, d__law_ways, d__law_right, d_law]
def fa : List He.Fa := [.glo "is_number", .glo "is_within", .glo "sure_within", .glo "is_long", .glo "are_numbers", .glo "ascends", .glo "tupled", .glo "common_of", .glo "least_of", .glo "slim", .glo "plus", .glo "times", .glo "is_fraction", .glo "primes_of", .glo "back_by", .glo "joined_rest", .glo "told_set", .glo "is_told", .glo "is_set", .glo "sure_set", .glo "parts_of", .glo "factorial_power", .glo "row_of", .glo "digit_of", .glo "order_row", .glo "powers_row", .glo "some_members", .glo "primes_in", .glo "factorial_by", .glo "is_poly", .glo "sure_poly", .glo "bare", .glo "plus_in", .glo "scaled_in", .glo "whole_row", .glo "value_in", .glo "roots_product", .glo "places_in", .glo "base_in", .glo "shares_in", .glo "sum_in", .glo "sure_low", .glo "poly_shares", .glo "shares_sum", .glo "lowered", .glo "sure_values", .glo "gaps_of", .glo "chosen_in", .glo "by_gaps", .glo "sum_of", .glo "row_gaps", .glo "row_poly", .glo "poly_row", .glo "sum_poly", .glo "stretch_sum", .glo "whole_shares_in", .glo "whole_shares", .glo "_law_box", .glo "_law_take", .glo "_law_cells", .glo "_law_same", .glo "_law_gcd", .glo "_law_slim", .glo "_law_plus", .glo "_law_times", .glo "_law_value", .glo "_law_size", .glo "_law_ways", .glo "_law_right", .glo "law", .free "len", .free "all", .free "any", .free "isinstance", .free "int", .free "bool", .free "tuple", .free "list", .free "range", .free "zip", .free "sorted", .free "set", .free "abs", .free "max", .free "min", .free "sum", .free "enumerate", .free "reversed", .free "dict", .free "str", .int "MOST_BY" 720, .int "MOST_MADE" 100000, .int "MOST_MORE" 30, .int "MOST_MEMBER" 1000000, .int "MOST_DEGREE" 40, .int "MOST_ENTRY" 1000000000000000000000000000000, .int "MOST_AT" 1000000000000, .glo "NOUGHT", .int "MOST_BASE" 24, .int "MOST_VALUES" 30]
def tu : List (PySem.Str × List He.Dv) := [("NOUGHT", [.int 0, .int 1])]
abbrev c_is_number : Nat := 0
abbrev c_is_within : Nat := 1
abbrev c_sure_within : Nat := 2
abbrev c_is_long : Nat := 3
abbrev c_are_numbers : Nat := 4
abbrev c_ascends : Nat := 5
abbrev c_tupled : Nat := 6
abbrev c_common_of : Nat := 7
abbrev c_least_of : Nat := 8
abbrev c_slim : Nat := 9
abbrev c_plus : Nat := 10
abbrev c_times : Nat := 11
abbrev c_is_fraction : Nat := 12
abbrev c_primes_of : Nat := 13
abbrev c_back_by : Nat := 14
abbrev c_joined_rest : Nat := 15
abbrev c_told_set : Nat := 16
abbrev c_is_told : Nat := 17
abbrev c_is_set : Nat := 18
abbrev c_sure_set : Nat := 19
abbrev c_parts_of : Nat := 20
abbrev c_factorial_power : Nat := 21
abbrev c_digit_of : Nat := 23
abbrev c_row_of : Nat := 22
abbrev c_order_row : Nat := 24
abbrev c_powers_row : Nat := 25
abbrev c_some_members : Nat := 26
abbrev c_primes_in : Nat := 27
abbrev c_factorial_by : Nat := 28
abbrev c_is_poly : Nat := 29
abbrev c_sure_poly : Nat := 30
abbrev c_bare : Nat := 31
abbrev c_plus_in : Nat := 32
abbrev c_scaled_in : Nat := 33
abbrev c_whole_row : Nat := 34
abbrev c_value_in : Nat := 35
abbrev c_roots_product : Nat := 36
abbrev c_places_in : Nat := 37
abbrev c_base_in : Nat := 38
abbrev c_shares_in : Nat := 39
abbrev c_sum_in : Nat := 40
abbrev c_sure_low : Nat := 41
abbrev c_poly_shares : Nat := 42
abbrev c_shares_sum : Nat := 43
abbrev c_lowered : Nat := 44
abbrev c_sure_values : Nat := 45
abbrev c_gaps_of : Nat := 46
abbrev c_chosen_in : Nat := 47
abbrev c_by_gaps : Nat := 48
abbrev c_sum_of : Nat := 49
abbrev c_row_gaps : Nat := 50
abbrev c_row_poly : Nat := 51
abbrev c_poly_row : Nat := 52
abbrev c_sum_poly : Nat := 53
abbrev c_stretch_sum : Nat := 54
abbrev c_whole_shares_in : Nat := 55
abbrev c_whole_shares : Nat := 56
abbrev c__law_box : Nat := 57
abbrev c__law_take : Nat := 58
abbrev c__law_cells : Nat := 59
abbrev c__law_same : Nat := 60
abbrev c__law_gcd : Nat := 61
abbrev c__law_slim : Nat := 62
abbrev c__law_plus : Nat := 63
abbrev c__law_times : Nat := 64
abbrev c__law_value : Nat := 65
abbrev c__law_size : Nat := 66
abbrev c__law_ways : Nat := 67
abbrev c__law_right : Nat := 68
def nmOf (k : Nat) : PySem.Str := match k with
  | 0 => "is_number"
  | 1 => "is_within"
  | 2 => "sure_within"
  | 3 => "is_long"
  | 4 => "are_numbers"
  | 5 => "ascends"
  | 6 => "tupled"
  | 7 => "common_of"
  | 8 => "least_of"
  | 9 => "slim"
  | 10 => "plus"
  | 11 => "times"
  | 12 => "is_fraction"
  | 13 => "primes_of"
  | 14 => "back_by"
  | 15 => "joined_rest"
  | 16 => "told_set"
  | 17 => "is_told"
  | 18 => "is_set"
  | 19 => "sure_set"
  | 20 => "parts_of"
  | 21 => "factorial_power"
  | 23 => "digit_of"
  | 22 => "row_of"
  | 24 => "order_row"
  | 25 => "powers_row"
  | 26 => "some_members"
  | 27 => "primes_in"
  | 28 => "factorial_by"
  | 29 => "is_poly"
  | 30 => "sure_poly"
  | 31 => "bare"
  | 32 => "plus_in"
  | 33 => "scaled_in"
  | 34 => "whole_row"
  | 35 => "value_in"
  | 36 => "roots_product"
  | 37 => "places_in"
  | 38 => "base_in"
  | 39 => "shares_in"
  | 40 => "sum_in"
  | 41 => "sure_low"
  | 42 => "poly_shares"
  | 43 => "shares_sum"
  | 44 => "lowered"
  | 45 => "sure_values"
  | 46 => "gaps_of"
  | 47 => "chosen_in"
  | 48 => "by_gaps"
  | 49 => "sum_of"
  | 50 => "row_gaps"
  | 51 => "row_poly"
  | 52 => "poly_row"
  | 53 => "sum_poly"
  | 54 => "stretch_sum"
  | 55 => "whole_shares_in"
  | 56 => "whole_shares"
  | 57 => "_law_box"
  | 58 => "_law_take"
  | 59 => "_law_cells"
  | 60 => "_law_same"
  | 61 => "_law_gcd"
  | 62 => "_law_slim"
  | 63 => "_law_plus"
  | 64 => "_law_times"
  | 65 => "_law_value"
  | 66 => "_law_size"
  | 67 => "_law_ways"
  | 68 => "_law_right"
  | _ => ""
abbrev fA (K : PySem.W.Frag) : Nat → Addr := fun k => He.ga K (nmOf k)
section
variable {P : Program} {w : World} {K : PySem.W.Frag} {mg : PySem.Str → Option Value} {base : Heap} {k : Nat}
abbrev FO (P : Program) (w : World) (K : PySem.W.Frag) (mg : PySem.Str → Option Value) (base : Heap) (k : Nat) (d : PySem.Str) (ps : List PySem.Str) (g : List Val → M Val) : Prop := FnOk P w K mg base CX0 k (He.ga K d) (fdOf K (He.ga K d)) ps (spOf K (fA K) g)
/-! is_number -/
def e_is_number (Γ : Gam) : Nf.S := (sSeq (sRet (eAnd (eUn (uIsa .int) (eVar 0)) (eNot (eUn (uIsa .bool) (eVar 0))))) sNil)
theorem sc_is_number : FnScope ["thing"] ["thing"] (defScope (top 4)) := ⟨rfl, rfl, rfl, by decide +kernel, rfl, by decide +kernel, by decide +kernel⟩
theorem b_is_number {fd : FuncData} {ad : Addr} {kws : List (PySem.Str × V)} (F : FunD K "is_number" "is_number" (defArgs (top 4)) (defBody (top 4)) (defScope (top 4)) [] kws ad fd) : Binds K fd ["thing"] [] := F.bindsN fun _ _ _ _ _ _ us hl => match us, hl with | [_], _ => rfl
theorem f_is_number (c : Cn fa fn tu K mg) : FunD K "is_number" "is_number" (defArgs (top 4)) (defBody (top 4)) (defScope (top 4)) [] [] (He.ga K "is_number") (fdOf K (He.ga K "is_number")) := c.f 0 (d := d_is_number) rfl
theorem k_is_number (c : Cn fa fn tu K mg) (Γ : Gam) : FO P w K mg base (k + 1) "is_number" ["thing"] (runDef 1 1 (e_is_number Γ)) := by
  refine fok (N := ["thing"]) (fA K) (e_is_number Γ) (f_is_number c) sc_is_number (by decide) ?_
  intro cdv A outer s0 H E ta hr hf
  exact (xss_cons (xret (xand (xisaT .int rfl rfl (c.b 73 rfl) rfl (c.b 74 rfl) (xOE (xv 0 rfl (.inl rfl)))) (xoneN (xnot (xOE (xisaT .bool rfl rfl (c.b 73 rfl) rfl (c.b 75 rfl) (xOE (xv 0 rfl (.inl rfl))))))))) xss_nil)
/-! is_within -/
def e_is_within (Γ : Gam) : Nf.S := (sSeq (sRet (eAnd (eCall Γ c_is_number (aCons (eVar 0) aNil)) (eChain cLe cLe (eVar 1) (eVar 0) (eVar 2)))) sNil)
theorem sc_is_within : FnScope ["thing", "least", "most"] ["thing", "least", "most"] (defScope (top 5)) := ⟨rfl, rfl, rfl, by decide +kernel, rfl, by decide +kernel, by decide +kernel⟩
theorem b_is_within {fd : FuncData} {ad : Addr} {kws : List (PySem.Str × V)} (F : FunD K "is_within" "is_within" (defArgs (top 5)) (defBody (top 5)) (defScope (top 5)) [] kws ad fd) : Binds K fd ["thing", "least", "most"] [] := F.bindsN fun _ _ _ _ _ _ us hl => match us, hl with | [_, _, _], _ => rfl
theorem f_is_within (c : Cn fa fn tu K mg) : FunD K "is_within" "is_within" (defArgs (top 5)) (defBody (top 5)) (defScope (top 5)) [] [] (He.ga K "is_within") (fdOf K (He.ga K "is_within")) := c.f 1 (d := d_is_within) rfl
theorem k_is_within (c : Cn fa fn tu K mg) (Γ : Gam) (h_is_number : FO P w K mg base k "is_number" ["thing"] (Γ c_is_number)) : FO P w K mg base (k + 1) "is_within" ["thing", "least", "most"] (runDef 3 3 (e_is_within Γ)) := by
  refine fok (N := ["thing", "least", "most"]) (fA K) (e_is_within Γ) (f_is_within c) sc_is_within (by decide) ?_
  intro cdv A outer s0 H E ta hr hf
  exact (xss_cons (xret (xand (xcall Γ c_is_number h_is_number hr rfl (c.g 0 rfl) (f_is_number c).kp (b_is_number (f_is_number c)) (xa_cons (xv 0 rfl (.inl rfl)) xa_nil)) (xoneN (xchain os_le os_le (xOE (xv 1 rfl (.inl rfl))) (xOE (xv 0 rfl (.inl rfl))) (xOE (xv 2 rfl (.inl rfl))))))) xss_nil)
/-! sure_within -/
def e_sure_within (Γ : Gam) : Nf.S := (sSeq (sIf (Nf.tNot (tTru (eCall Γ c_is_within (aCons (eVar 0) (aCons (eVar 1) (aCons (eVar 2) aNil)))))) (sSeq sBad sNil) sNil) (sSeq (sRet (eVar 0)) sNil))
theorem sc_sure_within : FnScope ["thing", "least", "most"] ["thing", "least", "most"] (defScope (top 6)) := ⟨rfl, rfl, rfl, by decide +kernel, rfl, by decide +kernel, by decide +kernel⟩
theorem b_sure_within {fd : FuncData} {ad : Addr} {kws : List (PySem.Str × V)} (F : FunD K "sure_within" "sure_within" (defArgs (top 6)) (defBody (top 6)) (defScope (top 6)) [] kws ad fd) : Binds K fd ["thing", "least", "most"] [] := F.bindsN fun _ _ _ _ _ _ us hl => match us, hl with | [_, _, _], _ => rfl
theorem f_sure_within (c : Cn fa fn tu K mg) : FunD K "sure_within" "sure_within" (defArgs (top 6)) (defBody (top 6)) (defScope (top 6)) [] [] (He.ga K "sure_within") (fdOf K (He.ga K "sure_within")) := c.f 2 (d := d_sure_within) rfl
theorem k_sure_within (c : Cn fa fn tu K mg) (Γ : Gam) (h_is_within : FO P w K mg base k "is_within" ["thing", "least", "most"] (Γ c_is_within)) : FO P w K mg base (k + 1) "sure_within" ["thing", "least", "most"] (runDef 3 3 (e_sure_within Γ)) := by
  refine fok (N := ["thing", "least", "most"]) (fA K) (e_sure_within Γ) (f_sure_within c) sc_sure_within (by decide) ?_
  intro cdv A outer s0 H E ta hr hf
  exact (xss_cons (xif' (xt_not (xt_tru (xOE (xcall Γ c_is_within h_is_within hr rfl (c.g 1 rfl) (f_is_within c).kp (b_is_within (f_is_within c)) (xa_cons (xv 0 rfl (.inl rfl)) (xa_cons (xv 1 rfl (.inl rfl)) (xa_cons (xv 2 rfl (.inl rfl)) xa_nil))))))) (xss_cons xbad xss_nil) xss_nil) (xss_cons (xret (xv 0 rfl (.inl rfl))) xss_nil))
/-! is_long -/
def e_is_long (Γ : Gam) : Nf.S := (sSeq (sRet (eAnd (eUn (uIsa .tuple) (eVar 0)) (eOp cEq (eB bLen (aCons (eVar 0) aNil)) (eVar 1)))) sNil)
theorem sc_is_long : FnScope ["thing", "length"] ["thing", "length"] (defScope (top 7)) := ⟨rfl, rfl, rfl, by decide +kernel, rfl, by decide +kernel, by decide +kernel⟩
theorem b_is_long {fd : FuncData} {ad : Addr} {kws : List (PySem.Str × V)} (F : FunD K "is_long" "is_long" (defArgs (top 7)) (defBody (top 7)) (defScope (top 7)) [] kws ad fd) : Binds K fd ["thing", "length"] [] := F.bindsN fun _ _ _ _ _ _ us hl => match us, hl with | [_, _], _ => rfl
theorem f_is_long (c : Cn fa fn tu K mg) : FunD K "is_long" "is_long" (defArgs (top 7)) (defBody (top 7)) (defScope (top 7)) [] [] (He.ga K "is_long") (fdOf K (He.ga K "is_long")) := c.f 3 (d := d_is_long) rfl
theorem k_is_long (c : Cn fa fn tu K mg) (Γ : Gam) : FO P w K mg base (k + 1) "is_long" ["thing", "length"] (runDef 2 2 (e_is_long Γ)) := by
  refine fok (N := ["thing", "length"]) (fA K) (e_is_long Γ) (f_is_long c) sc_is_long (by decide) ?_
  intro cdv A outer s0 H E ta hr hf
  exact (xss_cons (xret (xand (xisaT .tuple rfl rfl (c.b 73 rfl) rfl (c.b 76 rfl) (xOE (xv 0 rfl (.inl rfl)))) (xoneN (xcmp os_eq (xOE (xbf RE.back cs_len rfl (c.b 70 rfl) (by decide +kernel) (xa_consO (xOE (xv 0 rfl (.inl rfl))) xa_nil))) (xOE (xv 1 rfl (.inl rfl))))))) xss_nil)
/-! are_numbers -/
def e_are_numbers (Γ : Gam) : Nf.S := (sSeq (sRet (eAnd (eUn (uIsa .tuple) (eVar 0)) (eB bAll (aCons (eComp (iSeq (eVar 0)) (Nf.gName 1) [1] Nf.tYes (eCall Γ c_is_number (aCons (eVar 1) aNil))) aNil)))) sNil)
theorem sc_are_numbers : FnScope ["thing", "own"] ["thing"] (defScope (top 8)) := ⟨rfl, rfl, rfl, by decide +kernel, rfl, by decide +kernel, by decide +kernel⟩
theorem b_are_numbers {fd : FuncData} {ad : Addr} {kws : List (PySem.Str × V)} (F : FunD K "are_numbers" "are_numbers" (defArgs (top 8)) (defBody (top 8)) (defScope (top 8)) [] kws ad fd) : Binds K fd ["thing"] [] := F.bindsN fun _ _ _ _ _ _ us hl => match us, hl with | [_], _ => rfl
theorem f_are_numbers (c : Cn fa fn tu K mg) : FunD K "are_numbers" "are_numbers" (defArgs (top 8)) (defBody (top 8)) (defScope (top 8)) [] [] (He.ga K "are_numbers") (fdOf K (He.ga K "are_numbers")) := c.f 4 (d := d_are_numbers) rfl
theorem k_are_numbers (c : Cn fa fn tu K mg) (Γ : Gam) (h_is_number : FO P w K mg base k "is_number" ["thing"] (Γ c_is_number)) : FO P w K mg base (k + 1) "are_numbers" ["thing"] (runDef 1 2 (e_are_numbers Γ)) := by
  refine fok (N := ["thing", "own"]) (fA K) (e_are_numbers Γ) (f_are_numbers c) sc_are_numbers (by decide) ?_
  intro cdv A outer s0 H E ta hr hf
  exact (xss_cons (xret (xand (xisaT .tuple rfl rfl (c.b 73 rfl) rfl (c.b 76 rfl) (xOE (xv 0 rfl (.inl rfl)))) (xoneN (xbf RE.back cs_all rfl (c.b 71 rfl) (by decide +kernel) (xa_consO (xOE (xEN (xcomp [1] sc_are_numbers.nd (xiG (xi_seq (xv 0 rfl (.inl rfl)))) (blkOk_by (own := [("own", 1)]) (by kernel_rfl)) rfl (fun _ _ _ _ _ => (xg_name 1 sc_are_numbers.nd rfl (.inl rfl))) (fun _ _ _ _ _ => xts_nil) (fun _ _ _ _ _ => (xcall Γ c_is_number h_is_number hr rfl (c.g 0 rfl) (f_is_number c).kp (b_is_number (f_is_number c)) (xa_cons (xv 1 rfl (.inl rfl)) xa_nil)))))) xa_nil))))) xss_nil)
/-! ascends -/
def e_ascends (Γ : Gam) : Nf.S := (sSeq (sRet (eB bAll (aCons (eComp (iZip (aCons (eVar 0) (aCons (eSl (eVar 0) (pAt (eC (.int 1))) pNo) aNil))) (Nf.gTup [(Nf.gName 1), (Nf.gName 2)]) [1, 2] Nf.tYes (eOp cLt (eVar 1) (eVar 2))) aNil))) sNil)
theorem sc_ascends : FnScope ["row", "one", "other"] ["row"] (defScope (top 9)) := ⟨rfl, rfl, rfl, by decide +kernel, rfl, by decide +kernel, by decide +kernel⟩
theorem b_ascends {fd : FuncData} {ad : Addr} {kws : List (PySem.Str × V)} (F : FunD K "ascends" "ascends" (defArgs (top 9)) (defBody (top 9)) (defScope (top 9)) [] kws ad fd) : Binds K fd ["row"] [] := F.bindsN fun _ _ _ _ _ _ us hl => match us, hl with | [_], _ => rfl
theorem f_ascends (c : Cn fa fn tu K mg) : FunD K "ascends" "ascends" (defArgs (top 9)) (defBody (top 9)) (defScope (top 9)) [] [] (He.ga K "ascends") (fdOf K (He.ga K "ascends")) := c.f 5 (d := d_ascends) rfl
theorem k_ascends (c : Cn fa fn tu K mg) (Γ : Gam) : FO P w K mg base (k + 1) "ascends" ["row"] (runDef 1 3 (e_ascends Γ)) := by
  refine fok (N := ["row", "one", "other"]) (fA K) (e_ascends Γ) (f_ascends c) sc_ascends (by decide) ?_
  intro cdv A outer s0 H E ta hr hf
  exact (xss_cons (xret (xbf RE.back cs_all rfl (c.b 71 rfl) (by decide +kernel) (xa_consO (xOE (xEN (xcomp [1, 2] sc_ascends.nd (xiG (xi_zip rfl (c.b 79 rfl) (xa_cons (xv 0 rfl (.inl rfl)) (xa_cons (xsl (xOE (xv 0 rfl (.inl rfl))) (xp_at (xOE (xi 1))) xp_no) xa_nil)))) (blkOk_by (own := [("one", 1), ("other", 2)]) (by kernel_rfl)) rfl (fun _ _ _ _ _ => (xg_tup (xgs_cons (xg_name 1 sc_ascends.nd rfl (.inl rfl)) (xgs_cons (xg_name 2 sc_ascends.nd rfl (.inl rfl)) xgs_nil)))) (fun _ _ _ _ _ => xts_nil) (fun _ _ _ _ _ => (xcmp os_lt (xOE (xv 1 rfl (.inl rfl))) (xOE (xv 2 rfl (.inl rfl)))))))) xa_nil))) xss_nil)
/-! tupled -/
def e_tupled (Γ : Gam) : Nf.S := (sSeq (sRet (eIf (tTru (eUn (uIsa2 .list .tuple) (eVar 0))) (eB bTuple (aCons (eComp (iSeq (eVar 0)) (Nf.gName 1) [1] Nf.tYes (eCall Γ c_tupled (aCons (eVar 1) aNil))) aNil)) (eVar 0))) sNil)
theorem sc_tupled : FnScope ["value", "own"] ["value"] (defScope (top 10)) := ⟨rfl, rfl, rfl, by decide +kernel, rfl, by decide +kernel, by decide +kernel⟩
theorem b_tupled {fd : FuncData} {ad : Addr} {kws : List (PySem.Str × V)} (F : FunD K "tupled" "tupled" (defArgs (top 10)) (defBody (top 10)) (defScope (top 10)) [] kws ad fd) : Binds K fd ["value"] [] := F.bindsN fun _ _ _ _ _ _ us hl => match us, hl with | [_], _ => rfl
theorem f_tupled (c : Cn fa fn tu K mg) : FunD K "tupled" "tupled" (defArgs (top 10)) (defBody (top 10)) (defScope (top 10)) [] [] (He.ga K "tupled") (fdOf K (He.ga K "tupled")) := c.f 6 (d := d_tupled) rfl
theorem k_tupled (c : Cn fa fn tu K mg) (Γ : Gam) (h_tupled : FO P w K mg base k "tupled" ["value"] (Γ c_tupled)) : FO P w K mg base (k + 1) "tupled" ["value"] (runDef 1 2 (e_tupled Γ)) := by
  refine fok (N := ["value", "own"]) (fA K) (e_tupled Γ) (f_tupled c) sc_tupled (by decide) ?_
  intro cdv A outer s0 H E ta hr hf
  exact (xss_cons (xret (xif (xt_tru (xOE (xisa2T .list .tuple rfl rfl rfl (c.b 73 rfl) rfl (c.b 77 rfl) rfl (c.b 76 rfl) (xOE (xv 0 rfl (.inl rfl)))))) (xbt RE.back cs_tuple rfl (c.b 76 rfl) (by decide +kernel) (xa_consO (xOE (xEN (xcomp [1] sc_tupled.nd (xiG (xi_seq (xv 0 rfl (.inl rfl)))) (blkOk_by (own := [("own", 1)]) (by kernel_rfl)) rfl (fun _ _ _ _ _ => (xg_name 1 sc_tupled.nd rfl (.inl rfl))) (fun _ _ _ _ _ => xts_nil) (fun _ _ _ _ _ => (xcall Γ c_tupled h_tupled hr rfl (c.g 6 rfl) (f_tupled c).kp (b_tupled (f_tupled c)) (xa_cons (xv 1 rfl (.inl rfl)) xa_nil)))))) xa_nil)) (xv 0 rfl (.inl rfl)))) xss_nil)
/-! common_of -/
def e_common_of (Γ : Gam) : Nf.S := (sSeq (sWhile (tBl (eOp cNe (eVar 1) (eC (.int 0)))) (sSeq (sPar [(0, false), (1, false)] (aCons (eVar 1) (aCons (eOp oMod (eVar 0) (eVar 1)) aNil))) sNil)) (sSeq (sRet (eB bAbs (aCons (eVar 0) aNil))) sNil))
theorem sc_common_of : FnScope ["one", "other"] ["one", "other"] (defScope (top 11)) := ⟨rfl, rfl, rfl, by decide +kernel, rfl, by decide +kernel, by decide +kernel⟩
theorem b_common_of {fd : FuncData} {ad : Addr} {kws : List (PySem.Str × V)} (F : FunD K "common_of" "common_of" (defArgs (top 11)) (defBody (top 11)) (defScope (top 11)) [] kws ad fd) : Binds K fd ["one", "other"] [] := F.bindsN fun _ _ _ _ _ _ us hl => match us, hl with | [_, _], _ => rfl
theorem f_common_of (c : Cn fa fn tu K mg) : FunD K "common_of" "common_of" (defArgs (top 11)) (defBody (top 11)) (defScope (top 11)) [] [] (He.ga K "common_of") (fdOf K (He.ga K "common_of")) := c.f 7 (d := d_common_of) rfl
theorem k_common_of (c : Cn fa fn tu K mg) (Γ : Gam) : FO P w K mg base (k + 1) "common_of" ["one", "other"] (runDef 2 2 (e_common_of Γ)) := by
  refine fok (N := ["one", "other"]) (fA K) (e_common_of Γ) (f_common_of c) sc_common_of (by decide) ?_
  intro cdv A outer s0 H E ta hr hf
  exact (xss_cons (xwhile PassesOwn.never (xt_cmp os_ne (xOE (xv 1 rfl (.inl rfl))) (xOE (xi 0))) (xss_cons (xpar2 (b1 := false) (b2 := false) sc_common_of.nd (i := 0)  (j := 1) rfl rfl (by decide) rfl rfl (xm_e (xv 1 rfl (.inl rfl)) (xm_e (xopE os_mod (xOE (xv 0 rfl (.inl rfl))) (xOE (xv 1 rfl (.inl rfl)))) xm_nil)) rfl) xss_nil)) (xss_cons (xret (xbf RE.back cs_abs rfl (c.b 82 rfl) (by decide +kernel) (xa_consO (xOE (xv 0 rfl (.inl rfl))) xa_nil))) xss_nil))
/-! least_of -/
def e_least_of (Γ : Gam) : Nf.S := (sSeq (sRet (eOp oMul (eOp oDiv (eVar 0) (eCall Γ c_common_of (aCons (eVar 0) (aCons (eVar 1) aNil)))) (eVar 1))) sNil)
theorem sc_least_of : FnScope ["one", "other"] ["one", "other"] (defScope (top 12)) := ⟨rfl, rfl, rfl, by decide +kernel, rfl, by decide +kernel, by decide +kernel⟩
theorem b_least_of {fd : FuncData} {ad : Addr} {kws : List (PySem.Str × V)} (F : FunD K "least_of" "least_of" (defArgs (top 12)) (defBody (top 12)) (defScope (top 12)) [] kws ad fd) : Binds K fd ["one", "other"] [] := F.bindsN fun _ _ _ _ _ _ us hl => match us, hl with | [_, _], _ => rfl
theorem f_least_of (c : Cn fa fn tu K mg) : FunD K "least_of" "least_of" (defArgs (top 12)) (defBody (top 12)) (defScope (top 12)) [] [] (He.ga K "least_of") (fdOf K (He.ga K "least_of")) := c.f 8 (d := d_least_of) rfl
theorem k_least_of (c : Cn fa fn tu K mg) (Γ : Gam) (h_common_of : FO P w K mg base k "common_of" ["one", "other"] (Γ c_common_of)) : FO P w K mg base (k + 1) "least_of" ["one", "other"] (runDef 2 2 (e_least_of Γ)) := by
  refine fok (N := ["one", "other"]) (fA K) (e_least_of Γ) (f_least_of c) sc_least_of (by decide) ?_
  intro cdv A outer s0 H E ta hr hf
  exact (xss_cons (xret (xopE os_mul (xOE (xopE os_div (xOE (xv 0 rfl (.inl rfl))) (xOE (xcall Γ c_common_of h_common_of hr rfl (c.g 7 rfl) (f_common_of c).kp (b_common_of (f_common_of c)) (xa_cons (xv 0 rfl (.inl rfl)) (xa_cons (xv 1 rfl (.inl rfl)) xa_nil)))))) (xOE (xv 1 rfl (.inl rfl))))) xss_nil)
/-! slim -/
def e_slim (Γ : Gam) : Nf.S := (sSeq (sAsg (Nf.gName 2) (eIf (tBl (eOp cGt (eVar 1) (eC (.int 0)))) (eCall Γ c_common_of (aCons (eVar 0) (aCons (eVar 1) aNil))) (eUn uNeg (eCall Γ c_common_of (aCons (eVar 0) (aCons (eVar 1) aNil)))))) (sSeq (sRet (eTup (aCons (eOp oDiv (eVar 0) (eVar 2)) (aCons (eOp oDiv (eVar 1) (eVar 2)) aNil)))) sNil))
theorem sc_slim : FnScope ["over", "under", "common"] ["over", "under"] (defScope (top 13)) := ⟨rfl, rfl, rfl, by decide +kernel, rfl, by decide +kernel, by decide +kernel⟩
theorem b_slim {fd : FuncData} {ad : Addr} {kws : List (PySem.Str × V)} (F : FunD K "slim" "slim" (defArgs (top 13)) (defBody (top 13)) (defScope (top 13)) [] kws ad fd) : Binds K fd ["over", "under"] [] := F.bindsN fun _ _ _ _ _ _ us hl => match us, hl with | [_, _], _ => rfl
theorem f_slim (c : Cn fa fn tu K mg) : FunD K "slim" "slim" (defArgs (top 13)) (defBody (top 13)) (defScope (top 13)) [] [] (He.ga K "slim") (fdOf K (He.ga K "slim")) := c.f 9 (d := d_slim) rfl
theorem k_slim (c : Cn fa fn tu K mg) (Γ : Gam) (h_common_of : FO P w K mg base k "common_of" ["one", "other"] (Γ c_common_of)) : FO P w K mg base (k + 1) "slim" ["over", "under"] (runDef 2 3 (e_slim Γ)) := by
  refine fok (N := ["over", "under", "common"]) (fA K) (e_slim Γ) (f_slim c) sc_slim (by decide) ?_
  intro cdv A outer s0 H E ta hr hf
  exact (xss_cons (xset 2 sc_slim.nd rfl (.inl rfl) (xif (xt_cmp os_gt (xOE (xv 1 rfl (.inl rfl))) (xOE (xi 0))) (xcall Γ c_common_of h_common_of hr rfl (c.g 7 rfl) (f_common_of c).kp (b_common_of (f_common_of c)) (xa_cons (xv 0 rfl (.inl rfl)) (xa_cons (xv 1 rfl (.inl rfl)) xa_nil))) (xun us_neg (xOE (xcall Γ c_common_of h_common_of hr rfl (c.g 7 rfl) (f_common_of c).kp (b_common_of (f_common_of c)) (xa_cons (xv 0 rfl (.inl rfl)) (xa_cons (xv 1 rfl (.inl rfl)) xa_nil))))))) (xss_cons (xret (xtup (xa_cons (xopE os_div (xOE (xv 0 rfl (.inl rfl))) (xOE (xv 2 rfl (.inl rfl)))) (xa_cons (xopE os_div (xOE (xv 1 rfl (.inl rfl))) (xOE (xv 2 rfl (.inl rfl)))) xa_nil)))) xss_nil))
/-! plus -/
def e_plus (Γ : Gam) : Nf.S := (sSeq (sRet (eCall Γ c_slim (aCons (eOp oAdd (eOp oMul (eOp oIx (eVar 0) (eC (.int 0))) (eOp oIx (eVar 1) (eC (.int 1)))) (eOp oMul (eOp oIx (eVar 1) (eC (.int 0))) (eOp oIx (eVar 0) (eC (.int 1))))) (aCons (eOp oMul (eOp oIx (eVar 0) (eC (.int 1))) (eOp oIx (eVar 1) (eC (.int 1)))) aNil)))) sNil)
theorem sc_plus : FnScope ["one", "other"] ["one", "other"] (defScope (top 14)) := ⟨rfl, rfl, rfl, by decide +kernel, rfl, by decide +kernel, by decide +kernel⟩
theorem b_plus {fd : FuncData} {ad : Addr} {kws : List (PySem.Str × V)} (F : FunD K "plus" "plus" (defArgs (top 14)) (defBody (top 14)) (defScope (top 14)) [] kws ad fd) : Binds K fd ["one", "other"] [] := F.bindsN fun _ _ _ _ _ _ us hl => match us, hl with | [_, _], _ => rfl
theorem f_plus (c : Cn fa fn tu K mg) : FunD K "plus" "plus" (defArgs (top 14)) (defBody (top 14)) (defScope (top 14)) [] [] (He.ga K "plus") (fdOf K (He.ga K "plus")) := c.f 10 (d := d_plus) rfl
theorem k_plus (c : Cn fa fn tu K mg) (Γ : Gam) (h_slim : FO P w K mg base k "slim" ["over", "under"] (Γ c_slim)) : FO P w K mg base (k + 1) "plus" ["one", "other"] (runDef 2 2 (e_plus Γ)) := by
  refine fok (N := ["one", "other"]) (fA K) (e_plus Γ) (f_plus c) sc_plus (by decide) ?_
  intro cdv A outer s0 H E ta hr hf
  exact (xss_cons (xret (xcall Γ c_slim h_slim hr rfl (c.g 9 rfl) (f_slim c).kp (b_slim (f_slim c)) (xa_cons (xopE os_add (xOE (xopE os_mul (xOE (xix (xOE (xv 0 rfl (.inl rfl))) (xOE (xi 0)))) (xOE (xix (xOE (xv 1 rfl (.inl rfl))) (xOE (xi 1)))))) (xOE (xopE os_mul (xOE (xix (xOE (xv 1 rfl (.inl rfl))) (xOE (xi 0)))) (xOE (xix (xOE (xv 0 rfl (.inl rfl))) (xOE (xi 1))))))) (xa_cons (xopE os_mul (xOE (xix (xOE (xv 0 rfl (.inl rfl))) (xOE (xi 1)))) (xOE (xix (xOE (xv 1 rfl (.inl rfl))) (xOE (xi 1))))) xa_nil)))) xss_nil)
/-! times -/
def e_times (Γ : Gam) : Nf.S := (sSeq (sRet (eCall Γ c_slim (aCons (eOp oMul (eOp oIx (eVar 0) (eC (.int 0))) (eOp oIx (eVar 1) (eC (.int 0)))) (aCons (eOp oMul (eOp oIx (eVar 0) (eC (.int 1))) (eOp oIx (eVar 1) (eC (.int 1)))) aNil)))) sNil)
theorem sc_times : FnScope ["one", "other"] ["one", "other"] (defScope (top 15)) := ⟨rfl, rfl, rfl, by decide +kernel, rfl, by decide +kernel, by decide +kernel⟩
theorem b_times {fd : FuncData} {ad : Addr} {kws : List (PySem.Str × V)} (F : FunD K "times" "times" (defArgs (top 15)) (defBody (top 15)) (defScope (top 15)) [] kws ad fd) : Binds K fd ["one", "other"] [] := F.bindsN fun _ _ _ _ _ _ us hl => match us, hl with | [_, _], _ => rfl
theorem f_times (c : Cn fa fn tu K mg) : FunD K "times" "times" (defArgs (top 15)) (defBody (top 15)) (defScope (top 15)) [] [] (He.ga K "times") (fdOf K (He.ga K "times")) := c.f 11 (d := d_times) rfl
theorem k_times (c : Cn fa fn tu K mg) (Γ : Gam) (h_slim : FO P w K mg base k "slim" ["over", "under"] (Γ c_slim)) : FO P w K mg base (k + 1) "times" ["one", "other"] (runDef 2 2 (e_times Γ)) := by
  refine fok (N := ["one", "other"]) (fA K) (e_times Γ) (f_times c) sc_times (by decide) ?_
  intro cdv A outer s0 H E ta hr hf
  exact (xss_cons (xret (xcall Γ c_slim h_slim hr rfl (c.g 9 rfl) (f_slim c).kp (b_slim (f_slim c)) (xa_cons (xopE os_mul (xOE (xix (xOE (xv 0 rfl (.inl rfl))) (xOE (xi 0)))) (xOE (xix (xOE (xv 1 rfl (.inl rfl))) (xOE (xi 0))))) (xa_cons (xopE os_mul (xOE (xix (xOE (xv 0 rfl (.inl rfl))) (xOE (xi 1)))) (xOE (xix (xOE (xv 1 rfl (.inl rfl))) (xOE (xi 1))))) xa_nil)))) xss_nil)
/-! is_fraction -/
def e_is_fraction (Γ : Gam) : Nf.S := (sSeq (sRet (eAnd (eCall Γ c_is_long (aCons (eVar 0) (aCons (eC (.int 2)) aNil))) (eAnd (eCall Γ c_are_numbers (aCons (eVar 0) aNil)) (eAnd (eOp cGt (eOp oIx (eVar 0) (eC (.int 1))) (eC (.int 0))) (eOp cEq (eCall Γ c_common_of (aCons (eOp oIx (eVar 0) (eC (.int 0))) (aCons (eOp oIx (eVar 0) (eC (.int 1))) aNil))) (eC (.int 1))))))) sNil)
theorem sc_is_fraction : FnScope ["thing"] ["thing"] (defScope (top 16)) := ⟨rfl, rfl, rfl, by decide +kernel, rfl, by decide +kernel, by decide +kernel⟩
theorem b_is_fraction {fd : FuncData} {ad : Addr} {kws : List (PySem.Str × V)} (F : FunD K "is_fraction" "is_fraction" (defArgs (top 16)) (defBody (top 16)) (defScope (top 16)) [] kws ad fd) : Binds K fd ["thing"] [] := F.bindsN fun _ _ _ _ _ _ us hl => match us, hl with | [_], _ => rfl
theorem f_is_fraction (c : Cn fa fn tu K mg) : FunD K "is_fraction" "is_fraction" (defArgs (top 16)) (defBody (top 16)) (defScope (top 16)) [] [] (He.ga K "is_fraction") (fdOf K (He.ga K "is_fraction")) := c.f 12 (d := d_is_fraction) rfl
theorem k_is_fraction (c : Cn fa fn tu K mg) (Γ : Gam) (h_is_long : FO P w K mg base k "is_long" ["thing", "length"] (Γ c_is_long)) (h_are_numbers : FO P w K mg base k "are_numbers" ["thing"] (Γ c_are_numbers)) (h_common_of : FO P w K mg base k "common_of" ["one", "other"] (Γ c_common_of)) : FO P w K mg base (k + 1) "is_fraction" ["thing"] (runDef 1 1 (e_is_fraction Γ)) := by
  refine fok (N := ["thing"]) (fA K) (e_is_fraction Γ) (f_is_fraction c) sc_is_fraction (by decide) ?_
  intro cdv A outer s0 H E ta hr hf
  exact (xss_cons (xret (xand (xcall Γ c_is_long h_is_long hr rfl (c.g 3 rfl) (f_is_long c).kp (b_is_long (f_is_long c)) (xa_cons (xv 0 rfl (.inl rfl)) (xa_cons (xi 2) xa_nil))) (xand (xcall Γ c_are_numbers h_are_numbers hr rfl (c.g 4 rfl) (f_are_numbers c).kp (b_are_numbers (f_are_numbers c)) (xa_cons (xv 0 rfl (.inl rfl)) xa_nil)) (xand (xcmp os_gt (xOE (xix (xOE (xv 0 rfl (.inl rfl))) (xOE (xi 1)))) (xOE (xi 0))) (xoneN (xcmp os_eq (xOE (xcall Γ c_common_of h_common_of hr rfl (c.g 7 rfl) (f_common_of c).kp (b_common_of (f_common_of c)) (xa_cons (xix (xOE (xv 0 rfl (.inl rfl))) (xOE (xi 0))) (xa_cons (xix (xOE (xv 0 rfl (.inl rfl))) (xOE (xi 1))) xa_nil)))) (xOE (xi 1)))))))) xss_nil)
/-! primes_of -/
def e_primes_of (Γ : Gam) : Nf.S := (sSeq (sPar [(1, true), (2, false), (3, false)] (aCons (eLst aNil) (aCons (eB bAbs (aCons (eVar 0) aNil)) (aCons (eC (.int 2)) aNil)))) (sSeq (sWhile (tBl (eOp cLe (eOp oMul (eVar 3) (eVar 3)) (eVar 2))) (sSeq (sIf (tBl (eOp cEq (eOp oMod (eVar 2) (eVar 3)) (eC (.int 0)))) (sSeq (sApp 1 (eVar 3)) (sSeq (sWhile (tBl (eOp cEq (eOp oMod (eVar 2) (eVar 3)) (eC (.int 0)))) (sSeq (sAsg (Nf.gName 2) (eOp oDiv (eVar 2) (eVar 3))) sNil)) sNil)) sNil) (sSeq (sAsg (Nf.gName 3) (eOp oAdd (eVar 3) (eC (.int 1)))) sNil))) (sSeq (sRet (eOp oAdd (eVar 1) (eIf (tBl (eOp cGt (eVar 2) (eC (.int 1)))) (eLst (aCons (eVar 2) aNil)) (eLst aNil)))) sNil)))
theorem sc_primes_of : FnScope ["number", "found", "left", "own"] ["number"] (defScope (top 17)) := ⟨rfl, rfl, rfl, by decide +kernel, rfl, by decide +kernel, by decide +kernel⟩
theorem b_primes_of {fd : FuncData} {ad : Addr} {kws : List (PySem.Str × V)} (F : FunD K "primes_of" "primes_of" (defArgs (top 17)) (defBody (top 17)) (defScope (top 17)) [] kws ad fd) : Binds K fd ["number"] [] := F.bindsN fun _ _ _ _ _ _ us hl => match us, hl with | [_], _ => rfl
theorem f_primes_of (c : Cn fa fn tu K mg) : FunD K "primes_of" "primes_of" (defArgs (top 17)) (defBody (top 17)) (defScope (top 17)) [] [] (He.ga K "primes_of") (fdOf K (He.ga K "primes_of")) := c.f 13 (d := d_primes_of) rfl
theorem k_primes_of (c : Cn fa fn tu K mg) (Γ : Gam) : FO P w K mg base (k + 1) "primes_of" ["number"] (runDef 1 4 (e_primes_of Γ)) := by
  refine fok (N := ["number", "found", "left", "own"]) (fA K) (e_primes_of Γ) (f_primes_of c) sc_primes_of (by decide) ?_
  intro cdv A outer s0 H E ta hr hf
  exact (xss_cons (xpar3 (b1 := true) (b2 := false) (b3 := false) sc_primes_of.nd (i := 1)  (j := 2)  (l := 3) rfl rfl rfl (by decide) (by decide) (by decide) rfl rfl rfl (xm_n (xlst xa_nil) (xm_e (xbf RE.back cs_abs rfl (c.b 82 rfl) (by decide +kernel) (xa_consO (xOE (xv 0 rfl (.inl rfl))) xa_nil)) (xm_e (xi 2) xm_nil))) rfl) (xss_cons (xwhile PassesOwn.never (xt_cmp os_le (xOE (xopE os_mul (xOE (xv 3 rfl (.inl rfl))) (xOE (xv 3 rfl (.inl rfl))))) (xOE (xv 2 rfl (.inl rfl)))) (xss_cons (xif' (xt_cmp os_eq (xOE (xopE os_mod (xOE (xv 2 rfl (.inl rfl))) (xOE (xv 3 rfl (.inl rfl))))) (xOE (xi 0))) (xss_cons (xappend 1 rfl (.inl rfl) (xv 3 rfl (.inl rfl))) (xss_cons (xwhile PassesOwn.never (xt_cmp os_eq (xOE (xopE os_mod (xOE (xv 2 rfl (.inl rfl))) (xOE (xv 3 rfl (.inl rfl))))) (xOE (xi 0))) (xss_cons (xset 2 sc_primes_of.nd rfl (.inl rfl) (xopE os_div (xOE (xv 2 rfl (.inl rfl))) (xOE (xv 3 rfl (.inl rfl))))) xss_nil)) xss_nil)) xss_nil) (xss_cons (xset 3 sc_primes_of.nd rfl (.inl rfl) (xopE os_add (xOE (xv 3 rfl (.inl rfl))) (xOE (xi 1)))) xss_nil))) (xss_cons (xret (xopE os_add (xOE (xv 1 rfl (.inl rfl))) (xOE (xif (xt_cmp os_gt (xOE (xv 2 rfl (.inl rfl))) (xOE (xi 1))) (xEN (xlst (xa_cons (xv 2 rfl (.inl rfl)) xa_nil))) (xEN (xlst xa_nil)))))) xss_nil)))
/-! back_by -/
def e_back_by (Γ : Gam) : Nf.S := (sSeq (sAsg (Nf.gTup [(Nf.gName 2), (Nf.gName 3), (Nf.gName 4), (Nf.gName 5)]) (eTup (aCons (eVar 1) (aCons (eOp oMod (eVar 0) (eVar 1)) (aCons (eC (.int 0)) (aCons (eC (.int 1)) aNil)))))) (sSeq (sWhile (tBl (eOp cNe (eVar 3) (eC (.int 0)))) (sSeq (sAsg (Nf.gName 6) (eOp oDiv (eVar 2) (eVar 3))) (sSeq (sPar [(2, false), (3, false)] (aCons (eVar 3) (aCons (eOp oSub (eVar 2) (eOp oMul (eVar 6) (eVar 3))) aNil))) (sSeq (sPar [(4, false), (5, false)] (aCons (eVar 5) (aCons (eOp oSub (eVar 4) (eOp oMul (eVar 6) (eVar 5))) aNil))) sNil)))) (sSeq (sRet (eOp oMod (eVar 4) (eVar 1))) sNil)))
theorem sc_back_by : FnScope ["number", "by", "one", "other", "first", "second", "many"] ["number", "by"] (defScope (top 18)) := ⟨rfl, rfl, rfl, by decide +kernel, rfl, by decide +kernel, by decide +kernel⟩
theorem b_back_by {fd : FuncData} {ad : Addr} {kws : List (PySem.Str × V)} (F : FunD K "back_by" "back_by" (defArgs (top 18)) (defBody (top 18)) (defScope (top 18)) [] kws ad fd) : Binds K fd ["number", "by"] [] := F.bindsN fun _ _ _ _ _ _ us hl => match us, hl with | [_, _], _ => rfl
theorem f_back_by (c : Cn fa fn tu K mg) : FunD K "back_by" "back_by" (defArgs (top 18)) (defBody (top 18)) (defScope (top 18)) [] [] (He.ga K "back_by") (fdOf K (He.ga K "back_by")) := c.f 14 (d := d_back_by) rfl
theorem k_back_by (c : Cn fa fn tu K mg) (Γ : Gam) : FO P w K mg base (k + 1) "back_by" ["number", "by"] (runDef 2 7 (e_back_by Γ)) := by
  refine fok (N := ["number", "by", "one", "other", "first", "second", "many"]) (fA K) (e_back_by Γ) (f_back_by c) sc_back_by (by decide) ?_
  intro cdv A outer s0 H E ta hr hf
  exact (xss_cons (xasg (xtup (xa_cons (xv 1 rfl (.inl rfl)) (xa_cons (xopE os_mod (xOE (xv 0 rfl (.inl rfl))) (xOE (xv 1 rfl (.inl rfl)))) (xa_cons (xi 0) (xa_cons (xi 1) xa_nil))))) (xg_tup (xgs_cons (xg_name 2 sc_back_by.nd rfl (.inl rfl)) (xgs_cons (xg_name 3 sc_back_by.nd rfl (.inl rfl)) (xgs_cons (xg_name 4 sc_back_by.nd rfl (.inl rfl)) (xgs_cons (xg_name 5 sc_back_by.nd rfl (.inl rfl)) xgs_nil)))))) (xss_cons (xwhile PassesOwn.never (xt_cmp os_ne (xOE (xv 3 rfl (.inl rfl))) (xOE (xi 0))) (xss_cons (xset 6 sc_back_by.nd rfl (.inl rfl) (xopE os_div (xOE (xv 2 rfl (.inl rfl))) (xOE (xv 3 rfl (.inl rfl))))) (xss_cons (xpar2 (b1 := false) (b2 := false) sc_back_by.nd (i := 2)  (j := 3) rfl rfl (by decide) rfl rfl (xm_e (xv 3 rfl (.inl rfl)) (xm_e (xopE os_sub (xOE (xv 2 rfl (.inl rfl))) (xOE (xopE os_mul (xOE (xv 6 rfl (.inl rfl))) (xOE (xv 3 rfl (.inl rfl)))))) xm_nil)) rfl) (xss_cons (xpar2 (b1 := false) (b2 := false) sc_back_by.nd (i := 4)  (j := 5) rfl rfl (by decide) rfl rfl (xm_e (xv 5 rfl (.inl rfl)) (xm_e (xopE os_sub (xOE (xv 4 rfl (.inl rfl))) (xOE (xopE os_mul (xOE (xv 6 rfl (.inl rfl))) (xOE (xv 5 rfl (.inl rfl)))))) xm_nil)) rfl) xss_nil)))) (xss_cons (xret (xopE os_mod (xOE (xv 4 rfl (.inl rfl))) (xOE (xv 1 rfl (.inl rfl))))) xss_nil)))
/-! joined_rest -/
def e_joined_rest (Γ : Gam) : Nf.S := (sSeq (sIf (tBl (eOp cEq (eVar 3) (eC (.int 1)))) (sSeq (sRet (eOp oMod (eVar 0) (eVar 1))) sNil) sNil) (sSeq (sRet (eOp oAdd (eVar 0) (eOp oMul (eVar 1) (eOp oMod (eOp oMul (eOp oSub (eVar 2) (eVar 0)) (eCall Γ c_back_by (aCons (eVar 1) (aCons (eVar 3) aNil)))) (eVar 3))))) sNil))
theorem sc_joined_rest : FnScope ["rest", "size", "other", "far"] ["rest", "size", "other", "far"] (defScope (top 19)) := ⟨rfl, rfl, rfl, by decide +kernel, rfl, by decide +kernel, by decide +kernel⟩
theorem b_joined_rest {fd : FuncData} {ad : Addr} {kws : List (PySem.Str × V)} (F : FunD K "joined_rest" "joined_rest" (defArgs (top 19)) (defBody (top 19)) (defScope (top 19)) [] kws ad fd) : Binds K fd ["rest", "size", "other", "far"] [] := F.bindsN fun _ _ _ _ _ _ us hl => match us, hl with | [_, _, _, _], _ => rfl
theorem f_joined_rest (c : Cn fa fn tu K mg) : FunD K "joined_rest" "joined_rest" (defArgs (top 19)) (defBody (top 19)) (defScope (top 19)) [] [] (He.ga K "joined_rest") (fdOf K (He.ga K "joined_rest")) := c.f 15 (d := d_joined_rest) rfl
theorem k_joined_rest (c : Cn fa fn tu K mg) (Γ : Gam) (h_back_by : FO P w K mg base k "back_by" ["number", "by"] (Γ c_back_by)) : FO P w K mg base (k + 1) "joined_rest" ["rest", "size", "other", "far"] (runDef 4 4 (e_joined_rest Γ)) := by
  refine fok (N := ["rest", "size", "other", "far"]) (fA K) (e_joined_rest Γ) (f_joined_rest c) sc_joined_rest (by decide) ?_
  intro cdv A outer s0 H E ta hr hf
  exact (xss_cons (xif' (xt_cmp os_eq (xOE (xv 3 rfl (.inl rfl))) (xOE (xi 1))) (xss_cons (xret (xopE os_mod (xOE (xv 0 rfl (.inl rfl))) (xOE (xv 1 rfl (.inl rfl))))) xss_nil) xss_nil) (xss_cons (xret (xopE os_add (xOE (xv 0 rfl (.inl rfl))) (xOE (xopE os_mul (xOE (xv 1 rfl (.inl rfl))) (xOE (xopE os_mod (xOE (xopE os_mul (xOE (xopE os_sub (xOE (xv 2 rfl (.inl rfl))) (xOE (xv 0 rfl (.inl rfl))))) (xOE (xcall Γ c_back_by h_back_by hr rfl (c.g 14 rfl) (f_back_by c).kp (b_back_by (f_back_by c)) (xa_cons (xv 1 rfl (.inl rfl)) (xa_cons (xv 3 rfl (.inl rfl)) xa_nil)))))) (xOE (xv 3 rfl (.inl rfl))))))))) xss_nil))
/-! told_set -/
def e_told_set (Γ : Gam) : Nf.S := (sSeq (sAsg (Nf.gName 3) (eSortSet (eComp (iSeq (eVar 1)) (Nf.gName 5) [5] Nf.tYes (eOp oMod (eVar 5) (eVar 0))))) (sSeq (sIf (tBl (eOp cEq (eVar 3) (eLst aNil))) (sSeq (sAsg (Nf.gName 0) (eC (.int 1))) sNil) sNil) (sSeq (sFor (iRange2 (aCons (eC (.int 1)) (aCons (eVar 0) aNil))) (Nf.gName 4) (sSeq (sIf (Nf.tAnd (tBl (eOp cEq (eOp oMod (eVar 0) (eVar 4)) (eC (.int 0)))) (tBl (eOp cEq (eSortSet (eComp (iSeq (eVar 3)) (Nf.gName 5) [5] Nf.tYes (eOp oMod (eOp oAdd (eVar 5) (eVar 4)) (eVar 0)))) (eVar 3)))) (sSeq (sAsg (Nf.gTup [(Nf.gName 3), (Nf.gName 0)]) (eTup (aCons (eSortSet (eComp (iSeq (eVar 3)) (Nf.gName 5) [5] Nf.tYes (eOp oMod (eVar 5) (eVar 4)))) (aCons (eVar 4) aNil)))) (sSeq sBreak sNil)) sNil) sNil)) (sSeq (sRet (eTup (aCons (eVar 0) (aCons (eB bTuple (aCons (eVar 3) aNil)) (aCons (eB bTuple (aCons (eSortSet (eComp (iSeq (eVar 2)) (Nf.gName 5) [5] (tBl (eOp cNotIn (eOp oMod (eVar 5) (eVar 0)) (eVar 3))) (eVar 5))) aNil)) aNil))))) sNil))))
theorem sc_told_set : FnScope ["by", "rests", "more", "own", "small", "its"] ["by", "rests", "more"] (defScope (top 25)) := ⟨rfl, rfl, rfl, by decide +kernel, rfl, by decide +kernel, by decide +kernel⟩
theorem b_told_set {fd : FuncData} {ad : Addr} {kws : List (PySem.Str × V)} (F : FunD K "told_set" "told_set" (defArgs (top 25)) (defBody (top 25)) (defScope (top 25)) [] kws ad fd) : Binds K fd ["by", "rests", "more"] [] := F.bindsN fun _ _ _ _ _ _ us hl => match us, hl with | [_, _, _], _ => rfl
theorem f_told_set (c : Cn fa fn tu K mg) : FunD K "told_set" "told_set" (defArgs (top 25)) (defBody (top 25)) (defScope (top 25)) [] [] (He.ga K "told_set") (fdOf K (He.ga K "told_set")) := c.f 16 (d := d_told_set) rfl
theorem k_told_set (c : Cn fa fn tu K mg) (Γ : Gam) : FO P w K mg base (k + 1) "told_set" ["by", "rests", "more"] (runDef 3 6 (e_told_set Γ)) := by
  refine fok (N := ["by", "rests", "more", "own", "small", "its"]) (fA K) (e_told_set Γ) (f_told_set c) sc_told_set (by decide) ?_
  intro cdv A outer s0 H E ta hr hf
  exact (xss_cons (xset 3 sc_told_set.nd rfl (.inr rfl) (xEN (xsortset rfl (c.b 80 rfl) rfl (c.b 81 rfl) (xOE (xEN (xcomp [5] sc_told_set.nd (xiG (xi_seq (xv 1 rfl (.inl rfl)))) (blkOk_by (own := [("its", 5)]) (by kernel_rfl)) rfl (fun _ _ _ _ _ => (xg_name 5 sc_told_set.nd rfl (.inl rfl))) (fun _ _ _ _ _ => xts_nil) (fun _ _ _ _ _ => (xopE os_mod (xOE (xv 5 rfl (.inl rfl))) (xOE (xv 0 rfl (.inr (.inl rfl)))))))))))) (xss_cons (xif' (xt_cmp os_eq (xOE (xv 3 rfl (.inr (.inl rfl)))) (xOE (xEN (xlst xa_nil)))) (xss_cons (xset 0 sc_told_set.nd rfl (.inr rfl) (xi 1)) xss_nil) xss_nil) (xss_cons (xfor PassesOwn.never (xi_range2 rfl (c.b 78 rfl) (xa_consO (xOE (xi 1)) (xa_consO (xOE (xv 0 rfl (.inr (.inl rfl)))) xa_nil))) (xg_name 4 sc_told_set.nd rfl (.inr rfl)) (xss_cons (xif' (PW.pt (xw_and (xt_cmp os_eq (xOE (xopE os_mod (xOE (xv 0 rfl (.inr (.inl rfl)))) (xOE (xv 4 rfl (.inr (.inl rfl)))))) (xOE (xi 0))) (xw_and1 (xt_cmp os_eq (xOE (xEN (xsortset rfl (c.b 80 rfl) rfl (c.b 81 rfl) (xOE (xEN (xcomp [5] sc_told_set.nd (xiG (xi_seq (xv 3 rfl (.inr (.inl rfl))))) (blkOk_by (own := [("its", 5)]) (by kernel_rfl)) rfl (fun _ _ _ _ _ => (xg_name 5 sc_told_set.nd rfl (.inl rfl))) (fun _ _ _ _ _ => xts_nil) (fun _ _ _ _ _ => (xopE os_mod (xOE (xopE os_add (xOE (xv 5 rfl (.inl rfl))) (xOE (xv 4 rfl (.inr (.inl rfl)))))) (xOE (xv 0 rfl (.inr (.inl rfl)))))))))))) (xOE (xv 3 rfl (.inr (.inl rfl)))))))) (xss_cons (xasg (xtup (xa_cons (xEN (xsortset rfl (c.b 80 rfl) rfl (c.b 81 rfl) (xOE (xEN (xcomp [5] sc_told_set.nd (xiG (xi_seq (xv 3 rfl (.inr (.inl rfl))))) (blkOk_by (own := [("its", 5)]) (by kernel_rfl)) rfl (fun _ _ _ _ _ => (xg_name 5 sc_told_set.nd rfl (.inl rfl))) (fun _ _ _ _ _ => xts_nil) (fun _ _ _ _ _ => (xopE os_mod (xOE (xv 5 rfl (.inl rfl))) (xOE (xv 4 rfl (.inr (.inl rfl))))))))))) (xa_cons (xv 4 rfl (.inr (.inl rfl))) xa_nil))) (xg_tup (xgs_cons (xg_name 3 sc_told_set.nd rfl (.inr rfl)) (xgs_cons (xg_name 0 sc_told_set.nd rfl (.inr rfl)) xgs_nil)))) (xss_cons xbreak xss_nil)) xss_nil) xss_nil)) (xss_cons (xret (xtup (xa_cons (xv 0 rfl (.inr (.inl rfl))) (xa_cons (xbt RE.back cs_tuple rfl (c.b 76 rfl) (by decide +kernel) (xa_consO (xOE (xv 3 rfl (.inr (.inl rfl)))) xa_nil)) (xa_cons (xbt RE.back cs_tuple rfl (c.b 76 rfl) (by decide +kernel) (xa_consO (xOE (xEN (xsortset rfl (c.b 80 rfl) rfl (c.b 81 rfl) (xOE (xEN (xcomp [5] sc_told_set.nd (xiG (xi_seq (xv 2 rfl (.inl rfl)))) (blkOk_by (own := [("its", 5)]) (by kernel_rfl)) rfl (fun _ _ _ _ _ => (xg_name 5 sc_told_set.nd rfl (.inl rfl))) (fun _ _ _ _ _ => (xts_one (xt_cmp os_notin (xOE (xopE os_mod (xOE (xv 5 rfl (.inl rfl))) (xOE (xv 0 rfl (.inr (.inl rfl)))))) (xOE (xv 3 rfl (.inr (.inl rfl)))) (by with_unfolding_all rfl)))) (fun _ _ _ _ _ => (xv 5 rfl (.inl rfl))))))))) xa_nil)) xa_nil))))) xss_nil))))
/-! is_told -/
def e_is_told (Γ : Gam) : Nf.S := (sSeq (sRet (eAnd (eCall Γ c_is_long (aCons (eVar 0) (aCons (eC (.int 3)) aNil))) (eAnd (eCall Γ c_are_numbers (aCons (eSl (eVar 0) pNo (pAt (eC (.int 1)))) aNil)) (eAnd (eCall Γ c_are_numbers (aCons (eOp oIx (eVar 0) (eC (.int 1))) aNil)) (eCall Γ c_are_numbers (aCons (eOp oIx (eVar 0) (eC (.int 2))) aNil)))))) sNil)
theorem sc_is_told : FnScope ["thing"] ["thing"] (defScope (top 26)) := ⟨rfl, rfl, rfl, by decide +kernel, rfl, by decide +kernel, by decide +kernel⟩
theorem b_is_told {fd : FuncData} {ad : Addr} {kws : List (PySem.Str × V)} (F : FunD K "is_told" "is_told" (defArgs (top 26)) (defBody (top 26)) (defScope (top 26)) [] kws ad fd) : Binds K fd ["thing"] [] := F.bindsN fun _ _ _ _ _ _ us hl => match us, hl with | [_], _ => rfl
theorem f_is_told (c : Cn fa fn tu K mg) : FunD K "is_told" "is_told" (defArgs (top 26)) (defBody (top 26)) (defScope (top 26)) [] [] (He.ga K "is_told") (fdOf K (He.ga K "is_told")) := c.f 17 (d := d_is_told) rfl
theorem k_is_told (c : Cn fa fn tu K mg) (Γ : Gam) (h_is_long : FO P w K mg base k "is_long" ["thing", "length"] (Γ c_is_long)) (h_are_numbers : FO P w K mg base k "are_numbers" ["thing"] (Γ c_are_numbers)) : FO P w K mg base (k + 1) "is_told" ["thing"] (runDef 1 1 (e_is_told Γ)) := by
  refine fok (N := ["thing"]) (fA K) (e_is_told Γ) (f_is_told c) sc_is_told (by decide) ?_
  intro cdv A outer s0 H E ta hr hf
  exact (xss_cons (xret (xand (xcall Γ c_is_long h_is_long hr rfl (c.g 3 rfl) (f_is_long c).kp (b_is_long (f_is_long c)) (xa_cons (xv 0 rfl (.inl rfl)) (xa_cons (xi 3) xa_nil))) (xand (xcall Γ c_are_numbers h_are_numbers hr rfl (c.g 4 rfl) (f_are_numbers c).kp (b_are_numbers (f_are_numbers c)) (xa_cons (xsl (xOE (xv 0 rfl (.inl rfl))) xp_no (xp_at (xOE (xi 1)))) xa_nil)) (xand (xcall Γ c_are_numbers h_are_numbers hr rfl (c.g 4 rfl) (f_are_numbers c).kp (b_are_numbers (f_are_numbers c)) (xa_cons (xix (xOE (xv 0 rfl (.inl rfl))) (xOE (xi 1))) xa_nil)) (xoneN (xcall Γ c_are_numbers h_are_numbers hr rfl (c.g 4 rfl) (f_are_numbers c).kp (b_are_numbers (f_are_numbers c)) (xa_cons (xix (xOE (xv 0 rfl (.inl rfl))) (xOE (xi 2))) xa_nil))))))) xss_nil)
/-! is_set -/
def e_is_set (Γ : Gam) : Nf.S := (sSeq (sIf (Nf.tOr (Nf.tNot (tTru (eCall Γ c_is_told (aCons (eVar 0) aNil)))) (Nf.tOr (tBl (eOp cLt (eOp oIx (eVar 0) (eC (.int 0))) (eC (.int 1)))) (Nf.tOr (tBl (eOp cGt (eOp oIx (eVar 0) (eC (.int 0))) (eC (.int 100000)))) (tBl (eOp cEq (eOp oAdd (eOp oIx (eVar 0) (eC (.int 1))) (eOp oIx (eVar 0) (eC (.int 2)))) (eTup aNil)))))) (sSeq (sRet (eC (.bl false))) sNil) sNil) (sSeq (sRet (eAnd (eCall Γ c_ascends (aCons (eOp oIx (eVar 0) (eC (.int 1))) aNil)) (eAnd (eCall Γ c_ascends (aCons (eOp oIx (eVar 0) (eC (.int 2))) aNil)) (eOp cEq (eCall Γ c_told_set (aCons (eOp oIx (eVar 0) (eC (.int 0))) (aCons (eOp oIx (eVar 0) (eC (.int 1))) (aCons (eOp oIx (eVar 0) (eC (.int 2))) aNil)))) (eVar 0))))) sNil))
theorem sc_is_set : FnScope ["thing"] ["thing"] (defScope (top 27)) := ⟨rfl, rfl, rfl, by decide +kernel, rfl, by decide +kernel, by decide +kernel⟩
theorem b_is_set {fd : FuncData} {ad : Addr} {kws : List (PySem.Str × V)} (F : FunD K "is_set" "is_set" (defArgs (top 27)) (defBody (top 27)) (defScope (top 27)) [] kws ad fd) : Binds K fd ["thing"] [] := F.bindsN fun _ _ _ _ _ _ us hl => match us, hl with | [_], _ => rfl
theorem f_is_set (c : Cn fa fn tu K mg) : FunD K "is_set" "is_set" (defArgs (top 27)) (defBody (top 27)) (defScope (top 27)) [] [] (He.ga K "is_set") (fdOf K (He.ga K "is_set")) := c.f 18 (d := d_is_set) rfl
theorem k_is_set (c : Cn fa fn tu K mg) (Γ : Gam) (h_is_told : FO P w K mg base k "is_told" ["thing"] (Γ c_is_told)) (h_ascends : FO P w K mg base k "ascends" ["row"] (Γ c_ascends)) (h_told_set : FO P w K mg base k "told_set" ["by", "rests", "more"] (Γ c_told_set)) : FO P w K mg base (k + 1) "is_set" ["thing"] (runDef 1 1 (e_is_set Γ)) := by
  refine fok (N := ["thing"]) (fA K) (e_is_set Γ) (f_is_set c) sc_is_set (by decide) ?_
  intro cdv A outer s0 H E ta hr hf
  exact (xss_cons (xif' (PW.pt (xw_or (xt_not (xt_tru (xOE (xcall Γ c_is_told h_is_told hr rfl (c.g 17 rfl) (f_is_told c).kp (b_is_told (f_is_told c)) (xa_cons (xv 0 rfl (.inl rfl)) xa_nil))))) (xw_or (xt_cmp os_lt (xOE (xix (xOE (xv 0 rfl (.inl rfl))) (xOE (xi 0)))) (xOE (xi 1))) (xw_or (xt_cmp os_gt (xOE (xix (xOE (xv 0 rfl (.inl rfl))) (xOE (xi 0)))) (xOE (xgi c 91 rfl rfl rfl))) (xw_or1 (xt_cmp os_eq (xOE (xopE os_add (xOE (xix (xOE (xv 0 rfl (.inl rfl))) (xOE (xi 1)))) (xOE (xix (xOE (xv 0 rfl (.inl rfl))) (xOE (xi 2)))))) (xOE (xtup xa_nil)))))))) (xss_cons (xret (xb false)) xss_nil) xss_nil) (xss_cons (xret (xand (xcall Γ c_ascends h_ascends hr rfl (c.g 5 rfl) (f_ascends c).kp (b_ascends (f_ascends c)) (xa_cons (xix (xOE (xv 0 rfl (.inl rfl))) (xOE (xi 1))) xa_nil)) (xand (xcall Γ c_ascends h_ascends hr rfl (c.g 5 rfl) (f_ascends c).kp (b_ascends (f_ascends c)) (xa_cons (xix (xOE (xv 0 rfl (.inl rfl))) (xOE (xi 2))) xa_nil)) (xoneN (xcmp os_eq (xOE (xcall Γ c_told_set h_told_set hr rfl (c.g 16 rfl) (f_told_set c).kp (b_told_set (f_told_set c)) (xa_cons (xix (xOE (xv 0 rfl (.inl rfl))) (xOE (xi 0))) (xa_cons (xix (xOE (xv 0 rfl (.inl rfl))) (xOE (xi 1))) (xa_cons (xix (xOE (xv 0 rfl (.inl rfl))) (xOE (xi 2))) xa_nil))))) (xOE (xv 0 rfl (.inl rfl)))))))) xss_nil))
/-! sure_set -/
def e_sure_set (Γ : Gam) : Nf.S := (sSeq (sAsg (Nf.gName 1) (eCall Γ c_tupled (aCons (eVar 0) aNil))) (sSeq (sIf (Nf.tOr (Nf.tNot (tTru (eCall Γ c_is_set (aCons (eVar 1) aNil)))) (Nf.tOr (tBl (eOp cGt (eOp oIx (eVar 1) (eC (.int 0))) (eC (.int 720)))) (tBl (eOp cGt (eB bLen (aCons (eOp oIx (eVar 1) (eC (.int 2))) aNil)) (eC (.int 30)))))) (sSeq sBad sNil) sNil) (sSeq (sIf (tTru (eB bAny (aCons (eComp (iSeq (eOp oIx (eVar 1) (eC (.int 2)))) (Nf.gName 2) [2] Nf.tYes (eOp cGt (eB bAbs (aCons (eVar 2) aNil)) (eC (.int 1000000)))) aNil))) (sSeq sBad sNil) sNil) (sSeq (sRet (eVar 1)) sNil))))
theorem sc_sure_set : FnScope ["value", "own", "its"] ["value"] (defScope (top 28)) := ⟨rfl, rfl, rfl, by decide +kernel, rfl, by decide +kernel, by decide +kernel⟩
theorem b_sure_set {fd : FuncData} {ad : Addr} {kws : List (PySem.Str × V)} (F : FunD K "sure_set" "sure_set" (defArgs (top 28)) (defBody (top 28)) (defScope (top 28)) [] kws ad fd) : Binds K fd ["value"] [] := F.bindsN fun _ _ _ _ _ _ us hl => match us, hl with | [_], _ => rfl
theorem f_sure_set (c : Cn fa fn tu K mg) : FunD K "sure_set" "sure_set" (defArgs (top 28)) (defBody (top 28)) (defScope (top 28)) [] [] (He.ga K "sure_set") (fdOf K (He.ga K "sure_set")) := c.f 19 (d := d_sure_set) rfl
theorem k_sure_set (c : Cn fa fn tu K mg) (Γ : Gam) (h_tupled : FO P w K mg base k "tupled" ["value"] (Γ c_tupled)) (h_is_set : FO P w K mg base k "is_set" ["thing"] (Γ c_is_set)) : FO P w K mg base (k + 1) "sure_set" ["value"] (runDef 1 3 (e_sure_set Γ)) := by
  refine fok (N := ["value", "own", "its"]) (fA K) (e_sure_set Γ) (f_sure_set c) sc_sure_set (by decide) ?_
  intro cdv A outer s0 H E ta hr hf
  exact (xss_cons (xset 1 sc_sure_set.nd rfl (.inl rfl) (xcall Γ c_tupled h_tupled hr rfl (c.g 6 rfl) (f_tupled c).kp (b_tupled (f_tupled c)) (xa_cons (xv 0 rfl (.inl rfl)) xa_nil))) (xss_cons (xif' (PW.pt (xw_or (xt_not (xt_tru (xOE (xcall Γ c_is_set h_is_set hr rfl (c.g 18 rfl) (f_is_set c).kp (b_is_set (f_is_set c)) (xa_cons (xv 1 rfl (.inl rfl)) xa_nil))))) (xw_or (xt_cmp os_gt (xOE (xix (xOE (xv 1 rfl (.inl rfl))) (xOE (xi 0)))) (xOE (xgi c 90 rfl rfl rfl))) (xw_or1 (xt_cmp os_gt (xOE (xbf RE.back cs_len rfl (c.b 70 rfl) (by decide +kernel) (xa_consO (xOE (xix (xOE (xv 1 rfl (.inl rfl))) (xOE (xi 2)))) xa_nil))) (xOE (xgi c 92 rfl rfl rfl))))))) (xss_cons xbad xss_nil) xss_nil) (xss_cons (xif' (xt_tru (xOE (xbf RE.back cs_any rfl (c.b 72 rfl) (by decide +kernel) (xa_consO (xOE (xEN (xcomp [2] sc_sure_set.nd (xiG (xi_seq (xix (xOE (xv 1 rfl (.inl rfl))) (xOE (xi 2))))) (blkOk_by (own := [("its", 2)]) (by kernel_rfl)) rfl (fun _ _ _ _ _ => (xg_name 2 sc_sure_set.nd rfl (.inl rfl))) (fun _ _ _ _ _ => xts_nil) (fun _ _ _ _ _ => (xcmp os_gt (xOE (xbf RE.back cs_abs rfl (c.b 82 rfl) (by decide +kernel) (xa_consO (xOE (xv 2 rfl (.inl rfl))) xa_nil))) (xOE (xgi c 93 rfl rfl rfl))))))) xa_nil)))) (xss_cons xbad xss_nil) xss_nil) (xss_cons (xret (xv 1 rfl (.inl rfl))) xss_nil))))
/-! parts_of -/
def e_parts_of (Γ : Gam) : Nf.S := (sSeq (sAsg (Nf.gTup [(Nf.gName 2), (Nf.gName 3)]) (eTup (aCons (eC (.int 1)) (aCons (eC (.int 0)) aNil)))) (sSeq (sWhile (tBl (eOp cEq (eOp oMod (eOp oIx (eVar 0) (eC (.int 0))) (eOp oMul (eVar 2) (eVar 1))) (eC (.int 0)))) (sSeq (sAsg (Nf.gTup [(Nf.gName 2), (Nf.gName 3)]) (eTup (aCons (eOp oMul (eVar 2) (eVar 1)) (aCons (eOp oAdd (eVar 3) (eC (.int 1))) aNil)))) sNil)) (sSeq (sAsgO 4 eDNew) (sSeq (sFor (iSeq (eOp oIx (eVar 0) (eC (.int 1)))) (Nf.gName 5) (sSeq (sDDef 4 (eOp oMod (eVar 5) (eVar 2)) (eVar 5)) sNil)) (sSeq (sAsg (Nf.gName 6) (eComp (iSeq (eSortD (eOwn 4))) (Nf.gName 7) [7] Nf.tYes (eTup (aCons (eOp oIx (eOwn 4) (eVar 7)) (aCons (eVar 3) aNil))))) (sSeq (sRet (eOp oAdd (eVar 6) (eComp (iSeq (eOp oIx (eVar 0) (eC (.int 2)))) (Nf.gName 7) [7] (tBl (eOp cNotIn (eOp oMod (eVar 7) (eVar 2)) (eVar 4))) (eTup (aCons (eVar 7) (aCons (eC .non) aNil)))))) sNil))))))
theorem sc_parts_of : FnScope ["own", "prime", "size", "power", "rests", "rest", "found", "its"] ["own", "prime"] (defScope (top 30)) := ⟨rfl, rfl, rfl, by decide +kernel, rfl, by decide +kernel, by decide +kernel⟩
theorem b_parts_of {fd : FuncData} {ad : Addr} {kws : List (PySem.Str × V)} (F : FunD K "parts_of" "parts_of" (defArgs (top 30)) (defBody (top 30)) (defScope (top 30)) [] kws ad fd) : Binds K fd ["own", "prime"] [] := F.bindsN fun _ _ _ _ _ _ us hl => match us, hl with | [_, _], _ => rfl
theorem f_parts_of (c : Cn fa fn tu K mg) : FunD K "parts_of" "parts_of" (defArgs (top 30)) (defBody (top 30)) (defScope (top 30)) [] [] (He.ga K "parts_of") (fdOf K (He.ga K "parts_of")) := c.f 20 (d := d_parts_of) rfl
theorem k_parts_of (c : Cn fa fn tu K mg) (Γ : Gam) : FO P w K mg base (k + 1) "parts_of" ["own", "prime"] (runDef 2 8 (e_parts_of Γ)) := by
  refine fok (N := ["own", "prime", "size", "power", "rests", "rest", "found", "its"]) (fA K) (e_parts_of Γ) (f_parts_of c) sc_parts_of (by decide) ?_
  intro cdv A outer s0 H E ta hr hf
  exact (xss_cons (xasg (xtup (xa_cons (xi 1) (xa_cons (xi 0) xa_nil))) (xg_tup (xgs_cons (xg_name 2 sc_parts_of.nd rfl (.inr rfl)) (xgs_cons (xg_name 3 sc_parts_of.nd rfl (.inr rfl)) xgs_nil)))) (xss_cons (xwhile PassesOwn.never (xt_cmp os_eq (xOE (xopE os_mod (xOE (xix (xOE (xv 0 rfl (.inl rfl))) (xOE (xi 0)))) (xOE (xopE os_mul (xOE (xv 2 rfl (.inr (.inl rfl)))) (xOE (xv 1 rfl (.inl rfl))))))) (xOE (xi 0))) (xss_cons (xasg (xtup (xa_cons (xopE os_mul (xOE (xv 2 rfl (.inr (.inl rfl)))) (xOE (xv 1 rfl (.inl rfl)))) (xa_cons (xopE os_add (xOE (xv 3 rfl (.inr (.inl rfl)))) (xOE (xi 1))) xa_nil))) (xg_tup (xgs_cons (xg_name 2 sc_parts_of.nd rfl (.inr rfl)) (xgs_cons (xg_name 3 sc_parts_of.nd rfl (.inr rfl)) xgs_nil)))) xss_nil)) (xss_cons (xsetO 4 sc_parts_of.nd rfl (.inr rfl) xdnew) (xss_cons (xfor PassesOwn.never (xi_seq (xix (xOE (xv 0 rfl (.inl rfl))) (xOE (xi 1)))) (xg_name 5 sc_parts_of.nd rfl (.inl rfl)) (xss_cons (xdsetd 4 (xOE (xopE os_mod (xOE (xv 5 rfl (.inl rfl))) (xOE (xv 2 rfl (.inr (.inl rfl)))))) (xv 5 rfl (.inl rfl)) ⟨rfl, rfl, rfl, rfl⟩ rfl (.inr (.inl rfl))) xss_nil)) (xss_cons (xsetLcF 6 [7] sc_parts_of.nd rfl rfl (sw_true rfl rfl rfl rfl) (xiG (xi_seq (xEN (xsortD rfl (c.b 80 rfl) (xo 4 rfl (.inr (.inl rfl))))))) (blkOk_by (own := [("its", 7)]) (by kernel_rfl)) rfl (fun _ _ _ _ _ => (xg_name 7 sc_parts_of.nd rfl (.inl rfl))) (fun _ _ _ _ _ => xts_nil) (fun _ _ _ _ _ => (xtup (xa_cons (xix (xo 4 rfl (.inr (.inl rfl))) (xOE (xv 7 rfl (.inl rfl)))) (xa_cons (xv 3 rfl (.inr (.inl rfl))) xa_nil))))) (xss_cons (xret (xopE os_add (xOE (xv 6 rfl (.inl rfl))) (xOE (xEN (xcomp [7] sc_parts_of.nd (xiG (xi_seq (xix (xOE (xv 0 rfl (.inl rfl))) (xOE (xi 2))))) (blkOk_by (own := [("its", 7)]) (by kernel_rfl)) rfl (fun _ _ _ _ _ => (xg_name 7 sc_parts_of.nd rfl (.inl rfl))) (fun _ _ _ _ _ => (xts_one (xt_cmp os_notin (xOE (xopE os_mod (xOE (xv 7 rfl (.inl rfl))) (xOE (xv 2 rfl (.inr (.inl rfl)))))) (xOE (xv 4 rfl (.inr (.inl rfl)))) (by with_unfolding_all rfl)))) (fun _ _ _ _ _ => (xtup (xa_cons (xv 7 rfl (.inl rfl)) (xa_cons xn xa_nil))))))))) xss_nil))))))
/-! factorial_power -/
def e_factorial_power (Γ : Gam) : Nf.S := (sSeq (sAsg (Nf.gName 2) (eC (.int 0))) (sSeq (sWhile (tBl (eOp cGt (eVar 0) (eC (.int 0)))) (sSeq (sAsg (Nf.gName 0) (eOp oDiv (eVar 0) (eVar 1))) (sSeq (sAsg (Nf.gName 2) (eOp oAdd (eVar 2) (eVar 0))) sNil))) (sSeq (sRet (eVar 2)) sNil)))
theorem sc_factorial_power : FnScope ["number", "prime", "found"] ["number", "prime"] (defScope (top 31)) := ⟨rfl, rfl, rfl, by decide +kernel, rfl, by decide +kernel, by decide +kernel⟩
theorem b_factorial_power {fd : FuncData} {ad : Addr} {kws : List (PySem.Str × V)} (F : FunD K "factorial_power" "factorial_power" (defArgs (top 31)) (defBody (top 31)) (defScope (top 31)) [] kws ad fd) : Binds K fd ["number", "prime"] [] := F.bindsN fun _ _ _ _ _ _ us hl => match us, hl with | [_, _], _ => rfl
theorem f_factorial_power (c : Cn fa fn tu K mg) : FunD K "factorial_power" "factorial_power" (defArgs (top 31)) (defBody (top 31)) (defScope (top 31)) [] [] (He.ga K "factorial_power") (fdOf K (He.ga K "factorial_power")) := c.f 21 (d := d_factorial_power) rfl
theorem k_factorial_power (c : Cn fa fn tu K mg) (Γ : Gam) : FO P w K mg base (k + 1) "factorial_power" ["number", "prime"] (runDef 2 3 (e_factorial_power Γ)) := by
  refine fok (N := ["number", "prime", "found"]) (fA K) (e_factorial_power Γ) (f_factorial_power c) sc_factorial_power (by decide) ?_
  intro cdv A outer s0 H E ta hr hf
  exact (xss_cons (xset 2 sc_factorial_power.nd rfl (.inl rfl) (xi 0)) (xss_cons (xwhile PassesOwn.never (xt_cmp os_gt (xOE (xv 0 rfl (.inl rfl))) (xOE (xi 0))) (xss_cons (xset 0 sc_factorial_power.nd rfl (.inl rfl) (xopE os_div (xOE (xv 0 rfl (.inl rfl))) (xOE (xv 1 rfl (.inl rfl))))) (xss_cons (xset 2 sc_factorial_power.nd rfl (.inl rfl) (xopE os_add (xOE (xv 2 rfl (.inl rfl))) (xOE (xv 0 rfl (.inl rfl))))) xss_nil))) (xss_cons (xret (xv 2 rfl (.inl rfl))) xss_nil)))
/-! digit_of -/
def e_digit_of (Γ : Gam) : Nf.S := (sSeq (sAsg (Nf.gName 3) (eC (.int 1))) (sSeq (sFor (iRange1 (aCons (eVar 2) aNil)) (Nf.gName 4) (sSeq (sAsg (Nf.gName 3) (eOp oMul (eVar 3) (eVar 1))) sNil)) (sSeq (sRet (eOp oMod (eOp oDiv (eVar 0) (eVar 3)) (eVar 1))) sNil)))
theorem sc_digit_of : FnScope ["number", "prime", "depth", "size", "lap"] ["number", "prime", "depth"] (defScope (top 33)) := ⟨rfl, rfl, rfl, by decide +kernel, rfl, by decide +kernel, by decide +kernel⟩
theorem b_digit_of {fd : FuncData} {ad : Addr} {kws : List (PySem.Str × V)} (F : FunD K "digit_of" "digit_of" (defArgs (top 33)) (defBody (top 33)) (defScope (top 33)) [] kws ad fd) : Binds K fd ["number", "prime", "depth"] [] := F.bindsN fun _ _ _ _ _ _ us hl => match us, hl with | [_, _, _], _ => rfl
theorem f_digit_of (c : Cn fa fn tu K mg) : FunD K "digit_of" "digit_of" (defArgs (top 33)) (defBody (top 33)) (defScope (top 33)) [] [] (He.ga K "digit_of") (fdOf K (He.ga K "digit_of")) := c.f 23 (d := d_digit_of) rfl
theorem k_digit_of (c : Cn fa fn tu K mg) (Γ : Gam) : FO P w K mg base (k + 1) "digit_of" ["number", "prime", "depth"] (runDef 3 5 (e_digit_of Γ)) := by
  refine fok (N := ["number", "prime", "depth", "size", "lap"]) (fA K) (e_digit_of Γ) (f_digit_of c) sc_digit_of (by decide) ?_
  intro cdv A outer s0 H E ta hr hf
  exact (xss_cons (xset 3 sc_digit_of.nd rfl (.inl rfl) (xi 1)) (xss_cons (xfor PassesOwn.never (xi_range1 rfl (c.b 78 rfl) (xa_consO (xOE (xv 2 rfl (.inl rfl))) xa_nil)) (xg_name 4 sc_digit_of.nd rfl (.inl rfl)) (xss_cons (xset 3 sc_digit_of.nd rfl (.inl rfl) (xopE os_mul (xOE (xv 3 rfl (.inl rfl))) (xOE (xv 1 rfl (.inl rfl))))) xss_nil)) (xss_cons (xret (xopE os_mod (xOE (xopE os_div (xOE (xv 0 rfl (.inl rfl))) (xOE (xv 3 rfl (.inl rfl))))) (xOE (xv 1 rfl (.inl rfl))))) xss_nil)))
/-! row_of -/
def e_row_of (Γ : Gam) : Nf.S := (sSeq (sIf (tBl (eOp cEq (eB bLen (aCons (eVar 1) aNil)) (eC (.int 1)))) (sSeq (sAsg (Nf.gTup [(Nf.gName 5), (Nf.gName 6)]) (eOp oIx (eVar 1) (eC (.int 0)))) (sSeq (sIf (tBl (eOp oIsN (eVar 6) (eC .non))) (sSeq (sRet (eSl (eLst (aCons (eTup (aCons (eC (.int 0)) (aCons (eVar 5) aNil))) aNil)) pNo (pAt (eVar 4)))) sNil) sNil) (sSeq (sIf (tBl (eOp cLe (eVar 6) (eVar 3))) (sSeq (sRet (eComp (iRange1 (aCons (eVar 4) aNil)) (Nf.gName 12) [12] Nf.tYes (eTup (aCons (eCall Γ c_factorial_power (aCons (eVar 12) (aCons (eVar 2) aNil))) (aCons (eOp oAdd (eVar 5) (eOp oMul (eOp oIx (eVar 0) (eC (.int 0))) (eVar 12))) aNil))))) sNil) sNil) sNil))) sNil) (sSeq (sAsgO 7 eDNew) (sSeq (sForLots (iSeq (eVar 1)) 7 8 (eCall Γ c_digit_of (aCons (eOp oIx (eVar 8) (eC (.int 0))) (aCons (eVar 2) (aCons (eVar 3) aNil))))) (sSeq (sAsgO 9 (eLst aNil)) (sSeq (sFor (iSeq (eSortD (eOwn 7))) (Nf.gName 10) (sSeq (sAsg (Nf.gName 11) (eCall Γ c_row_of (aCons (eVar 0) (aCons (eOp oIx (eOwn 7) (eVar 10)) (aCons (eVar 2) (aCons (eOp oAdd (eVar 3) (eC (.int 1))) (aCons (eVar 4) aNil))))))) (sSeq (sExt 9 (eComp (iEnum (aCons (eVar 11) aNil)) (Nf.gTup [(Nf.gName 13), (Nf.gTup [(Nf.gName 6), (Nf.gName 14)])]) [13, 6, 14] Nf.tYes (eTup (aCons (eOp oAdd (eVar 6) (eVar 13)) (aCons (eVar 10) (aCons (eVar 13) (aCons (eVar 14) aNil))))))) sNil))) (sSeq (sRet (eComp (iSeq (eSl (eSortT (eVar 9)) pNo (pAt (eVar 4)))) (Nf.gName 12) [12] Nf.tYes (eTup (aCons (eOp oIx (eVar 12) (eC (.int 0))) (aCons (eOp oIx (eVar 12) (eC (.int 3))) aNil))))) sNil))))))
theorem sc_row_of : FnScope ["own", "parts", "prime", "depth", "many", "rest", "power", "lots", "part", "found", "digit", "row", "its", "place", "member"] ["own", "parts", "prime", "depth", "many"] (defScope (top 32)) := ⟨rfl, rfl, rfl, by decide +kernel, rfl, by decide +kernel, by decide +kernel⟩
theorem b_row_of {fd : FuncData} {ad : Addr} {kws : List (PySem.Str × V)} (F : FunD K "row_of" "row_of" (defArgs (top 32)) (defBody (top 32)) (defScope (top 32)) [] kws ad fd) : Binds K fd ["own", "parts", "prime", "depth", "many"] [] := F.bindsN fun _ _ _ _ _ _ us hl => match us, hl with | [_, _, _, _, _], _ => rfl
theorem f_row_of (c : Cn fa fn tu K mg) : FunD K "row_of" "row_of" (defArgs (top 32)) (defBody (top 32)) (defScope (top 32)) [] [] (He.ga K "row_of") (fdOf K (He.ga K "row_of")) := c.f 22 (d := d_row_of) rfl
theorem k_row_of (c : Cn fa fn tu K mg) (Γ : Gam) (h_factorial_power : FO P w K mg base k "factorial_power" ["number", "prime"] (Γ c_factorial_power)) (h_digit_of : FO P w K mg base k "digit_of" ["number", "prime", "depth"] (Γ c_digit_of)) (h_row_of : FO P w K mg base k "row_of" ["own", "parts", "prime", "depth", "many"] (Γ c_row_of)) : FO P w K mg base (k + 1) "row_of" ["own", "parts", "prime", "depth", "many"] (runDef 5 15 (e_row_of Γ)) := by
  refine fok (N := ["own", "parts", "prime", "depth", "many", "rest", "power", "lots", "part", "found", "digit", "row", "its", "place", "member"]) (fA K) (e_row_of Γ) (f_row_of c) sc_row_of (by decide) ?_
  intro cdv A outer s0 H E ta hr hf
  exact (xss_cons (xif' (xt_cmp os_eq (xOE (xbf RE.back cs_len rfl (c.b 70 rfl) (by decide +kernel) (xa_consO (xOE (xv 1 rfl (.inl rfl))) xa_nil))) (xOE (xi 1))) (xss_cons (xasg (xix (xOE (xv 1 rfl (.inl rfl))) (xOE (xi 0))) (xg_tup (xgs_cons (xg_name 5 sc_row_of.nd rfl (.inr rfl)) (xgs_cons (xg_name 6 sc_row_of.nd rfl (.inl rfl)) xgs_nil)))) (xss_cons (xif' (xt_cmp os_isN (xOE (xv 6 rfl (.inl rfl))) (xOE xn)) (xss_cons (xret (xsl (xOE (xEN (xlst (xa_cons (xtup (xa_cons (xi 0) (xa_cons (xv 5 rfl (.inr (.inl rfl))) xa_nil))) xa_nil)))) xp_no (xp_at (xOE (xv 4 rfl (.inl rfl)))))) xss_nil) xss_nil) (xss_cons (xif' (xt_cmp os_le (xOE (xv 6 rfl (.inl rfl))) (xOE (xv 3 rfl (.inl rfl)))) (xss_cons (xret (xEN (xcomp [12] sc_row_of.nd (xiG (xi_range1 rfl (c.b 78 rfl) (xa_consO (xOE (xv 4 rfl (.inl rfl))) xa_nil))) (blkOk_by (own := [("its", 12)]) (by kernel_rfl)) rfl (fun _ _ _ _ _ => (xg_name 12 sc_row_of.nd rfl (.inl rfl))) (fun _ _ _ _ _ => xts_nil) (fun _ _ _ _ _ => (xtup (xa_cons (xcall Γ c_factorial_power h_factorial_power hr rfl (c.g 21 rfl) (f_factorial_power c).kp (b_factorial_power (f_factorial_power c)) (xa_cons (xv 12 rfl (.inl rfl)) (xa_cons (xv 2 rfl (.inr (.inl rfl))) xa_nil))) (xa_cons (xopE os_add (xOE (xv 5 rfl (.inr (.inl rfl)))) (xOE (xopE os_mul (xOE (xix (xOE (xv 0 rfl (.inr (.inl rfl)))) (xOE (xi 0)))) (xOE (xv 12 rfl (.inl rfl)))))) xa_nil))))))) xss_nil) xss_nil) xss_nil))) xss_nil) (xss_cons (xsetO 7 sc_row_of.nd rfl (.inl rfl) xdnew) (xss_cons (xforLots 7 8 PassesOwn.never (xi_seq (xv 1 rfl (.inl rfl))) sc_row_of.nd (xOE (xcall Γ c_digit_of h_digit_of hr rfl (c.g 23 rfl) (f_digit_of c).kp (b_digit_of (f_digit_of c)) (xa_cons (xix (xOE (xv 8 rfl (.inl rfl))) (xOE (xi 0))) (xa_cons (xv 2 rfl (.inr (.inl rfl))) (xa_cons (xv 3 rfl (.inl rfl)) xa_nil))))) ⟨rfl, rfl, rfl, rfl⟩ rfl (.inl rfl) rfl (.inl rfl) (.inl rfl) (by decide) (by decide) (by decide) (by decide) (by decide)) (xss_cons (xsetO 9 sc_row_of.nd rfl (.inl rfl) (xlst xa_nil)) (xss_cons (xfor PassesOwn.never (xi_seq (xEN (xsortD rfl (c.b 80 rfl) (xo 7 rfl (.inl rfl))))) (xg_name 10 sc_row_of.nd rfl (.inr rfl)) (xss_cons (xset 11 sc_row_of.nd rfl (.inl rfl) (xcall Γ c_row_of h_row_of hr rfl (c.g 22 rfl) (f_row_of c).kp (b_row_of (f_row_of c)) (xa_cons (xv 0 rfl (.inr (.inl rfl))) (xa_cons (xix (xo 7 rfl (.inl rfl)) (xOE (xv 10 rfl (.inr (.inl rfl))))) (xa_cons (xv 2 rfl (.inr (.inl rfl))) (xa_cons (xopE os_add (xOE (xv 3 rfl (.inl rfl))) (xOE (xi 1))) (xa_cons (xv 4 rfl (.inl rfl)) xa_nil))))))) (xss_cons (xextend 9 rfl (.inl rfl) (xEN (xcomp [13, 6, 14] sc_row_of.nd (xiG (xi_enum rfl (c.b 86 rfl) (xa_cons (xv 11 rfl (.inl rfl)) xa_nil))) (blkOk_by (own := [("place", 13), ("power", 6), ("member", 14)]) (by kernel_rfl)) rfl (fun _ _ _ _ _ => (xg_tup (xgs_cons (xg_name 13 sc_row_of.nd rfl (.inl rfl)) (xgs_cons (xg_tup (xgs_cons (xg_name 6 sc_row_of.nd rfl (.inl rfl)) (xgs_cons (xg_name 14 sc_row_of.nd rfl (.inl rfl)) xgs_nil))) xgs_nil)))) (fun _ _ _ _ _ => xts_nil) (fun _ _ _ _ _ => (xtup (xa_cons (xopE os_add (xOE (xv 6 rfl (.inl rfl))) (xOE (xv 13 rfl (.inl rfl)))) (xa_cons (xv 10 rfl (.inr (.inl rfl))) (xa_cons (xv 13 rfl (.inl rfl)) (xa_cons (xv 14 rfl (.inl rfl)) xa_nil))))))))) xss_nil))) (xss_cons (xret (xEN (xcomp [12] sc_row_of.nd (xiG (xi_seq (xsl (xOE (xEN (xsortT rfl (c.b 80 rfl) (xOE (xv 9 rfl (.inl rfl)))))) xp_no (xp_at (xOE (xv 4 rfl (.inl rfl))))))) (blkOk_by (own := [("its", 12)]) (by kernel_rfl)) rfl (fun _ _ _ _ _ => (xg_name 12 sc_row_of.nd rfl (.inl rfl))) (fun _ _ _ _ _ => xts_nil) (fun _ _ _ _ _ => (xtup (xa_cons (xix (xOE (xv 12 rfl (.inl rfl))) (xOE (xi 0))) (xa_cons (xix (xOE (xv 12 rfl (.inl rfl))) (xOE (xi 3))) xa_nil))))))) xss_nil))))))
/-! order_row -/
def e_order_row (Γ : Gam) : Nf.S := (sSeq (sRet (eCall Γ c_row_of (aCons (eVar 0) (aCons (eCall Γ c_parts_of (aCons (eVar 0) (aCons (eVar 1) aNil))) (aCons (eVar 1) (aCons (eC (.int 0)) (aCons (eVar 2) aNil))))))) sNil)
theorem sc_order_row : FnScope ["own", "prime", "many"] ["own", "prime", "many"] (defScope (top 34)) := ⟨rfl, rfl, rfl, by decide +kernel, rfl, by decide +kernel, by decide +kernel⟩
theorem b_order_row {fd : FuncData} {ad : Addr} {kws : List (PySem.Str × V)} (F : FunD K "order_row" "order_row" (defArgs (top 34)) (defBody (top 34)) (defScope (top 34)) [] kws ad fd) : Binds K fd ["own", "prime", "many"] [] := F.bindsN fun _ _ _ _ _ _ us hl => match us, hl with | [_, _, _], _ => rfl
theorem f_order_row (c : Cn fa fn tu K mg) : FunD K "order_row" "order_row" (defArgs (top 34)) (defBody (top 34)) (defScope (top 34)) [] [] (He.ga K "order_row") (fdOf K (He.ga K "order_row")) := c.f 24 (d := d_order_row) rfl
theorem k_order_row (c : Cn fa fn tu K mg) (Γ : Gam) (h_row_of : FO P w K mg base k "row_of" ["own", "parts", "prime", "depth", "many"] (Γ c_row_of)) (h_parts_of : FO P w K mg base k "parts_of" ["own", "prime"] (Γ c_parts_of)) : FO P w K mg base (k + 1) "order_row" ["own", "prime", "many"] (runDef 3 3 (e_order_row Γ)) := by
  refine fok (N := ["own", "prime", "many"]) (fA K) (e_order_row Γ) (f_order_row c) sc_order_row (by decide) ?_
  intro cdv A outer s0 H E ta hr hf
  exact (xss_cons (xret (xcall Γ c_row_of h_row_of hr rfl (c.g 22 rfl) (f_row_of c).kp (b_row_of (f_row_of c)) (xa_cons (xv 0 rfl (.inl rfl)) (xa_cons (xcall Γ c_parts_of h_parts_of hr rfl (c.g 20 rfl) (f_parts_of c).kp (b_parts_of (f_parts_of c)) (xa_cons (xv 0 rfl (.inl rfl)) (xa_cons (xv 1 rfl (.inl rfl)) xa_nil))) (xa_cons (xv 1 rfl (.inl rfl)) (xa_cons (xi 0) (xa_cons (xv 2 rfl (.inl rfl)) xa_nil))))))) xss_nil)
/-! powers_row -/
def e_powers_row (Γ : Gam) : Nf.S := (sSeq (sRet (eComp (iSeq (eCall Γ c_order_row (aCons (eVar 0) (aCons (eVar 1) (aCons (eVar 2) aNil))))) (Nf.gName 3) [3] Nf.tYes (eOp oIx (eVar 3) (eC (.int 0))))) sNil)
theorem sc_powers_row : FnScope ["own", "prime", "many", "its"] ["own", "prime", "many"] (defScope (top 35)) := ⟨rfl, rfl, rfl, by decide +kernel, rfl, by decide +kernel, by decide +kernel⟩
theorem b_powers_row {fd : FuncData} {ad : Addr} {kws : List (PySem.Str × V)} (F : FunD K "powers_row" "powers_row" (defArgs (top 35)) (defBody (top 35)) (defScope (top 35)) [] kws ad fd) : Binds K fd ["own", "prime", "many"] [] := F.bindsN fun _ _ _ _ _ _ us hl => match us, hl with | [_, _, _], _ => rfl
theorem f_powers_row (c : Cn fa fn tu K mg) : FunD K "powers_row" "powers_row" (defArgs (top 35)) (defBody (top 35)) (defScope (top 35)) [] [] (He.ga K "powers_row") (fdOf K (He.ga K "powers_row")) := c.f 25 (d := d_powers_row) rfl
theorem k_powers_row (c : Cn fa fn tu K mg) (Γ : Gam) (h_order_row : FO P w K mg base k "order_row" ["own", "prime", "many"] (Γ c_order_row)) : FO P w K mg base (k + 1) "powers_row" ["own", "prime", "many"] (runDef 3 4 (e_powers_row Γ)) := by
  refine fok (N := ["own", "prime", "many", "its"]) (fA K) (e_powers_row Γ) (f_powers_row c) sc_powers_row (by decide) ?_
  intro cdv A outer s0 H E ta hr hf
  exact (xss_cons (xret (xEN (xcomp [3] sc_powers_row.nd (xiG (xi_seq (xcall Γ c_order_row h_order_row hr rfl (c.g 24 rfl) (f_order_row c).kp (b_order_row (f_order_row c)) (xa_cons (xv 0 rfl (.inl rfl)) (xa_cons (xv 1 rfl (.inl rfl)) (xa_cons (xv 2 rfl (.inl rfl)) xa_nil)))))) (blkOk_by (own := [("its", 3)]) (by kernel_rfl)) rfl (fun _ _ _ _ _ => (xg_name 3 sc_powers_row.nd rfl (.inl rfl))) (fun _ _ _ _ _ => xts_nil) (fun _ _ _ _ _ => (xix (xOE (xv 3 rfl (.inl rfl))) (xOE (xi 0))))))) xss_nil)
/-! some_members -/
def e_some_members (Γ : Gam) : Nf.S := (sSeq (sIf (tBl (eOp cEq (eOp oIx (eVar 0) (eC (.int 1))) (eTup aNil))) (sSeq (sRet (eB bList (aCons (eSl (eOp oIx (eVar 0) (eC (.int 2))) pNo (pAt (eVar 1))) aNil))) sNil) sNil) (sSeq (sRet (eComp (iRange1 (aCons (eVar 1) aNil)) (Nf.gName 2) [2] Nf.tYes (eOp oAdd (eOp oIx (eOp oIx (eVar 0) (eC (.int 1))) (eC (.int 0))) (eOp oMul (eOp oIx (eVar 0) (eC (.int 0))) (eVar 2))))) sNil))
theorem sc_some_members : FnScope ["own", "many", "its"] ["own", "many"] (defScope (top 37)) := ⟨rfl, rfl, rfl, by decide +kernel, rfl, by decide +kernel, by decide +kernel⟩
theorem b_some_members {fd : FuncData} {ad : Addr} {kws : List (PySem.Str × V)} (F : FunD K "some_members" "some_members" (defArgs (top 37)) (defBody (top 37)) (defScope (top 37)) [] kws ad fd) : Binds K fd ["own", "many"] [] := F.bindsN fun _ _ _ _ _ _ us hl => match us, hl with | [_, _], _ => rfl
theorem f_some_members (c : Cn fa fn tu K mg) : FunD K "some_members" "some_members" (defArgs (top 37)) (defBody (top 37)) (defScope (top 37)) [] [] (He.ga K "some_members") (fdOf K (He.ga K "some_members")) := c.f 26 (d := d_some_members) rfl
theorem k_some_members (c : Cn fa fn tu K mg) (Γ : Gam) : FO P w K mg base (k + 1) "some_members" ["own", "many"] (runDef 2 3 (e_some_members Γ)) := by
  refine fok (N := ["own", "many", "its"]) (fA K) (e_some_members Γ) (f_some_members c) sc_some_members (by decide) ?_
  intro cdv A outer s0 H E ta hr hf
  exact (xss_cons (xif' (xt_cmp os_eq (xOE (xix (xOE (xv 0 rfl (.inr (.inl rfl)))) (xOE (xi 1)))) (xOE (xtup xa_nil))) (xss_cons (xret (xEN (xbt RN.back cs_list rfl (c.b 77 rfl) (by decide +kernel) (xa_consO (xOE (xsl (xOE (xix (xOE (xv 0 rfl (.inr (.inl rfl)))) (xOE (xi 2)))) xp_no (xp_at (xOE (xv 1 rfl (.inl rfl)))))) xa_nil)))) xss_nil) xss_nil) (xss_cons (xret (xEN (xcomp [2] sc_some_members.nd (xiG (xi_range1 rfl (c.b 78 rfl) (xa_consO (xOE (xv 1 rfl (.inl rfl))) xa_nil))) (blkOk_by (own := [("its", 2)]) (by kernel_rfl)) rfl (fun _ _ _ _ _ => (xg_name 2 sc_some_members.nd rfl (.inl rfl))) (fun _ _ _ _ _ => xts_nil) (fun _ _ _ _ _ => (xopE os_add (xOE (xix (xOE (xix (xOE (xv 0 rfl (.inr (.inl rfl)))) (xOE (xi 1)))) (xOE (xi 0)))) (xOE (xopE os_mul (xOE (xix (xOE (xv 0 rfl (.inr (.inl rfl)))) (xOE (xi 0)))) (xOE (xv 2 rfl (.inl rfl)))))))))) xss_nil))
/-! primes_in -/
def e_primes_in (Γ : Gam) : Nf.S := (sSeq (sPar [(2, false), (3, true)] (aCons (eCall Γ c_some_members (aCons (eVar 0) (aCons (eOp oAdd (eVar 1) (eC (.int 1))) aNil))) (aCons eDNew aNil))) (sSeq (sFor (iEnum (aCons (eVar 2) aNil)) (Nf.gTup [(Nf.gName 4), (Nf.gName 5)]) (sSeq (sFor (iSeq (eSl (eVar 2) pNo (pAt (eVar 4)))) (Nf.gName 6) (sSeq (sFor (iSeq (eCall Γ c_primes_of (aCons (eOp oSub (eVar 5) (eVar 6)) aNil))) (Nf.gName 7) (sSeq (sDSet 3 (eVar 7) (eC (.bl true))) sNil)) sNil)) sNil)) (sSeq (sRet (eSortD (eVar 3))) sNil)))
theorem sc_primes_in : FnScope ["own", "number", "row", "found", "place", "one", "other", "prime"] ["own", "number"] (defScope (top 38)) := ⟨rfl, rfl, rfl, by decide +kernel, rfl, by decide +kernel, by decide +kernel⟩
theorem b_primes_in {fd : FuncData} {ad : Addr} {kws : List (PySem.Str × V)} (F : FunD K "primes_in" "primes_in" (defArgs (top 38)) (defBody (top 38)) (defScope (top 38)) [] kws ad fd) : Binds K fd ["own", "number"] [] := F.bindsN fun _ _ _ _ _ _ us hl => match us, hl with | [_, _], _ => rfl
theorem f_primes_in (c : Cn fa fn tu K mg) : FunD K "primes_in" "primes_in" (defArgs (top 38)) (defBody (top 38)) (defScope (top 38)) [] [] (He.ga K "primes_in") (fdOf K (He.ga K "primes_in")) := c.f 27 (d := d_primes_in) rfl
theorem k_primes_in (c : Cn fa fn tu K mg) (Γ : Gam) (h_some_members : FO P w K mg base k "some_members" ["own", "many"] (Γ c_some_members)) (h_primes_of : FO P w K mg base k "primes_of" ["number"] (Γ c_primes_of)) : FO P w K mg base (k + 1) "primes_in" ["own", "number"] (runDef 2 8 (e_primes_in Γ)) := by
  refine fok (N := ["own", "number", "row", "found", "place", "one", "other", "prime"]) (fA K) (e_primes_in Γ) (f_primes_in c) sc_primes_in (by decide) ?_
  intro cdv A outer s0 H E ta hr hf
  exact (xss_cons (xpar2 (b1 := false) (b2 := true) sc_primes_in.nd (i := 2)  (j := 3) rfl rfl (by decide) rfl rfl (xm_e (xcall Γ c_some_members h_some_members hr rfl (c.g 26 rfl) (f_some_members c).kp (b_some_members (f_some_members c)) (xa_cons (xv 0 rfl (.inl rfl)) (xa_cons (xopE os_add (xOE (xv 1 rfl (.inl rfl))) (xOE (xi 1))) xa_nil))) (xm_n xdnew xm_nil)) rfl) (xss_cons (xfor PassesOwn.never (xi_enum rfl (c.b 86 rfl) (xa_cons (xv 2 rfl (.inl rfl)) xa_nil)) (xg_tup (xgs_cons (xg_name 4 sc_primes_in.nd rfl (.inl rfl)) (xgs_cons (xg_name 5 sc_primes_in.nd rfl (.inl rfl)) xgs_nil))) (xss_cons (xfor PassesOwn.never (xi_seq (xsl (xOE (xv 2 rfl (.inl rfl))) xp_no (xp_at (xOE (xv 4 rfl (.inl rfl)))))) (xg_name 6 sc_primes_in.nd rfl (.inl rfl)) (xss_cons (xfor PassesOwn.never (xi_seq (xcall Γ c_primes_of h_primes_of hr rfl (c.g 13 rfl) (f_primes_of c).kp (b_primes_of (f_primes_of c)) (xa_cons (xopE os_sub (xOE (xv 5 rfl (.inl rfl))) (xOE (xv 6 rfl (.inl rfl)))) xa_nil))) (xg_name 7 sc_primes_in.nd rfl (.inl rfl)) (xss_cons (xdset 3 (xb true) (xOE (xv 7 rfl (.inl rfl))) rfl (.inl rfl)) xss_nil)) xss_nil)) xss_nil)) (xss_cons (xret (xEN (xsortD rfl (c.b 80 rfl) (xOE (xv 3 rfl (.inl rfl)))))) xss_nil)))
/-! factorial_by -/
def e_factorial_by (Γ : Gam) : Nf.S := (sSeq (sIf (Nf.tAnd (tBl (eOp cEq (eOp oIx (eVar 0) (eC (.int 1))) (eTup aNil))) (tBl (eOp cGe (eVar 1) (eB bLen (aCons (eOp oIx (eVar 0) (eC (.int 2))) aNil))))) (sSeq (sRet (eC (.int 0))) sNil) sNil) (sSeq (sAsg (Nf.gName 3) (eC (.int 1))) (sSeq (sFor (iSeq (eVar 2)) (Nf.gName 4) (sSeq (sFor (iRange1 (aCons (eOp oIx (eCall Γ c_powers_row (aCons (eVar 0) (aCons (eVar 4) (aCons (eOp oAdd (eVar 1) (eC (.int 1))) aNil)))) (eVar 1)) aNil)) (Nf.gName 5) (sSeq (sAsg (Nf.gName 3) (eOp oMul (eVar 3) (eVar 4))) sNil)) sNil)) (sSeq (sRet (eVar 3)) sNil))))
theorem sc_factorial_by : FnScope ["own", "number", "primes", "found", "prime", "lap"] ["own", "number", "primes"] (defScope (top 39)) := ⟨rfl, rfl, rfl, by decide +kernel, rfl, by decide +kernel, by decide +kernel⟩
theorem b_factorial_by {fd : FuncData} {ad : Addr} {kws : List (PySem.Str × V)} (F : FunD K "factorial_by" "factorial_by" (defArgs (top 39)) (defBody (top 39)) (defScope (top 39)) [] kws ad fd) : Binds K fd ["own", "number", "primes"] [] := F.bindsN fun _ _ _ _ _ _ us hl => match us, hl with | [_, _, _], _ => rfl
theorem f_factorial_by (c : Cn fa fn tu K mg) : FunD K "factorial_by" "factorial_by" (defArgs (top 39)) (defBody (top 39)) (defScope (top 39)) [] [] (He.ga K "factorial_by") (fdOf K (He.ga K "factorial_by")) := c.f 28 (d := d_factorial_by) rfl
theorem k_factorial_by (c : Cn fa fn tu K mg) (Γ : Gam) (h_powers_row : FO P w K mg base k "powers_row" ["own", "prime", "many"] (Γ c_powers_row)) : FO P w K mg base (k + 1) "factorial_by" ["own", "number", "primes"] (runDef 3 6 (e_factorial_by Γ)) := by
  refine fok (N := ["own", "number", "primes", "found", "prime", "lap"]) (fA K) (e_factorial_by Γ) (f_factorial_by c) sc_factorial_by (by decide) ?_
  intro cdv A outer s0 H E ta hr hf
  exact (xss_cons (xif' (PW.pt (xw_and (xt_cmp os_eq (xOE (xix (xOE (xv 0 rfl (.inl rfl))) (xOE (xi 1)))) (xOE (xtup xa_nil))) (xw_and1 (xt_cmp os_ge (xOE (xv 1 rfl (.inl rfl))) (xOE (xbf RE.back cs_len rfl (c.b 70 rfl) (by decide +kernel) (xa_consO (xOE (xix (xOE (xv 0 rfl (.inl rfl))) (xOE (xi 2)))) xa_nil))))))) (xss_cons (xret (xi 0)) xss_nil) xss_nil) (xss_cons (xset 3 sc_factorial_by.nd rfl (.inl rfl) (xi 1)) (xss_cons (xfor PassesOwn.never (xi_seq (xv 2 rfl (.inl rfl))) (xg_name 4 sc_factorial_by.nd rfl (.inl rfl)) (xss_cons (xfor PassesOwn.never (xi_range1 rfl (c.b 78 rfl) (xa_consO (xOE (xix (xOE (xcall Γ c_powers_row h_powers_row hr rfl (c.g 25 rfl) (f_powers_row c).kp (b_powers_row (f_powers_row c)) (xa_cons (xv 0 rfl (.inl rfl)) (xa_cons (xv 4 rfl (.inl rfl)) (xa_cons (xopE os_add (xOE (xv 1 rfl (.inl rfl))) (xOE (xi 1))) xa_nil))))) (xOE (xv 1 rfl (.inl rfl))))) xa_nil)) (xg_name 5 sc_factorial_by.nd rfl (.inl rfl)) (xss_cons (xset 3 sc_factorial_by.nd rfl (.inl rfl) (xopE os_mul (xOE (xv 3 rfl (.inl rfl))) (xOE (xv 4 rfl (.inl rfl))))) xss_nil)) xss_nil)) (xss_cons (xret (xv 3 rfl (.inl rfl))) xss_nil))))
/-! is_poly -/
def e_is_poly (Γ : Gam) : Nf.S := (sSeq (sIf (Nf.tOr (Nf.tNot (tTru (eUn (uIsa .tuple) (eVar 0)))) (Nf.tNot (tTru (eB bAll (aCons (eComp (iSeq (eVar 0)) (Nf.gName 1) [1] Nf.tYes (eCall Γ c_is_fraction (aCons (eVar 1) aNil))) aNil))))) (sSeq (sRet (eC (.bl false))) sNil) sNil) (sSeq (sRet (eOr (eOp cEq (eVar 0) (eTup aNil)) (eOp cNe (eOp oIx (eVar 0) (eUn uNeg (eC (.int 1)))) (eC (.tup [.int 0, .int 1]))))) sNil))
theorem sc_is_poly : FnScope ["thing", "own"] ["thing"] (defScope (top 45)) := ⟨rfl, rfl, rfl, by decide +kernel, rfl, by decide +kernel, by decide +kernel⟩
theorem b_is_poly {fd : FuncData} {ad : Addr} {kws : List (PySem.Str × V)} (F : FunD K "is_poly" "is_poly" (defArgs (top 45)) (defBody (top 45)) (defScope (top 45)) [] kws ad fd) : Binds K fd ["thing"] [] := F.bindsN fun _ _ _ _ _ _ us hl => match us, hl with | [_], _ => rfl
theorem f_is_poly (c : Cn fa fn tu K mg) : FunD K "is_poly" "is_poly" (defArgs (top 45)) (defBody (top 45)) (defScope (top 45)) [] [] (He.ga K "is_poly") (fdOf K (He.ga K "is_poly")) := c.f 29 (d := d_is_poly) rfl
theorem k_is_poly (c : Cn fa fn tu K mg) (Γ : Gam) (h_is_fraction : FO P w K mg base k "is_fraction" ["thing"] (Γ c_is_fraction)) : FO P w K mg base (k + 1) "is_poly" ["thing"] (runDef 1 2 (e_is_poly Γ)) := by
  refine fok (N := ["thing", "own"]) (fA K) (e_is_poly Γ) (f_is_poly c) sc_is_poly (by decide) ?_
  intro cdv A outer s0 H E ta hr hf
  exact (xss_cons (xif' (PW.pt (xw_or (xt_not (xt_tru (xOE (xisaT .tuple rfl rfl (c.b 73 rfl) rfl (c.b 76 rfl) (xOE (xv 0 rfl (.inl rfl))))))) (xw_or1 (xt_not (xt_tru (xOE (xbf RE.back cs_all rfl (c.b 71 rfl) (by decide +kernel) (xa_consO (xOE (xEN (xcomp [1] sc_is_poly.nd (xiG (xi_seq (xv 0 rfl (.inl rfl)))) (blkOk_by (own := [("own", 1)]) (by kernel_rfl)) rfl (fun _ _ _ _ _ => (xg_name 1 sc_is_poly.nd rfl (.inl rfl))) (fun _ _ _ _ _ => xts_nil) (fun _ _ _ _ _ => (xcall Γ c_is_fraction h_is_fraction hr rfl (c.g 12 rfl) (f_is_fraction c).kp (b_is_fraction (f_is_fraction c)) (xa_cons (xv 1 rfl (.inl rfl)) xa_nil)))))) xa_nil)))))))) (xss_cons (xret (xb false)) xss_nil) xss_nil) (xss_cons (xret (xor (xcmp os_eq (xOE (xv 0 rfl (.inl rfl))) (xOE (xtup xa_nil))) (xoneN (xcmp os_ne (xOE (xix (xOE (xv 0 rfl (.inl rfl))) (xOE (xun us_neg (xOE (xi 1)))))) (xOE (xgt (ns := [0, 1]) c 97 0 rfl rfl rfl rfl rfl)))))) xss_nil))
/-! sure_poly -/
def e_sure_poly (Γ : Gam) : Nf.S := (sSeq (sAsg (Nf.gName 1) (eCall Γ c_tupled (aCons (eVar 0) aNil))) (sSeq (sIf (Nf.tOr (Nf.tNot (tTru (eCall Γ c_is_poly (aCons (eVar 1) aNil)))) (tBl (eOp cGt (eB bLen (aCons (eVar 1) aNil)) (eOp oAdd (eC (.int 40)) (eC (.int 1)))))) (sSeq sBad sNil) sNil) (sSeq (sIf (tTru (eB bAny (aCons (eComp (iSeq (eVar 1)) (Nf.gName 2) [2] Nf.tYes (eOr (eOp cGt (eB bAbs (aCons (eOp oIx (eVar 2) (eC (.int 0))) aNil)) (eC (.int 1000000000000000000000000000000))) (eOp cGt (eOp oIx (eVar 2) (eC (.int 1))) (eC (.int 1000000000000000000000000000000))))) aNil))) (sSeq sBad sNil) sNil) (sSeq (sRet (eVar 1)) sNil))))
theorem sc_sure_poly : FnScope ["value", "own", "its"] ["value"] (defScope (top 46)) := ⟨rfl, rfl, rfl, by decide +kernel, rfl, by decide +kernel, by decide +kernel⟩
theorem b_sure_poly {fd : FuncData} {ad : Addr} {kws : List (PySem.Str × V)} (F : FunD K "sure_poly" "sure_poly" (defArgs (top 46)) (defBody (top 46)) (defScope (top 46)) [] kws ad fd) : Binds K fd ["value"] [] := F.bindsN fun _ _ _ _ _ _ us hl => match us, hl with | [_], _ => rfl
theorem f_sure_poly (c : Cn fa fn tu K mg) : FunD K "sure_poly" "sure_poly" (defArgs (top 46)) (defBody (top 46)) (defScope (top 46)) [] [] (He.ga K "sure_poly") (fdOf K (He.ga K "sure_poly")) := c.f 30 (d := d_sure_poly) rfl
theorem k_sure_poly (c : Cn fa fn tu K mg) (Γ : Gam) (h_tupled : FO P w K mg base k "tupled" ["value"] (Γ c_tupled)) (h_is_poly : FO P w K mg base k "is_poly" ["thing"] (Γ c_is_poly)) : FO P w K mg base (k + 1) "sure_poly" ["value"] (runDef 1 3 (e_sure_poly Γ)) := by
  refine fok (N := ["value", "own", "its"]) (fA K) (e_sure_poly Γ) (f_sure_poly c) sc_sure_poly (by decide) ?_
  intro cdv A outer s0 H E ta hr hf
  exact (xss_cons (xset 1 sc_sure_poly.nd rfl (.inl rfl) (xcall Γ c_tupled h_tupled hr rfl (c.g 6 rfl) (f_tupled c).kp (b_tupled (f_tupled c)) (xa_cons (xv 0 rfl (.inl rfl)) xa_nil))) (xss_cons (xif' (PW.pt (xw_or (xt_not (xt_tru (xOE (xcall Γ c_is_poly h_is_poly hr rfl (c.g 29 rfl) (f_is_poly c).kp (b_is_poly (f_is_poly c)) (xa_cons (xv 1 rfl (.inl rfl)) xa_nil))))) (xw_or1 (xt_cmp os_gt (xOE (xbf RE.back cs_len rfl (c.b 70 rfl) (by decide +kernel) (xa_consO (xOE (xv 1 rfl (.inl rfl))) xa_nil))) (xOE (xopE os_add (xOE (xgi c 94 rfl rfl rfl)) (xOE (xi 1)))))))) (xss_cons xbad xss_nil) xss_nil) (xss_cons (xif' (xt_tru (xOE (xbf RE.back cs_any rfl (c.b 72 rfl) (by decide +kernel) (xa_consO (xOE (xEN (xcomp [2] sc_sure_poly.nd (xiG (xi_seq (xv 1 rfl (.inl rfl)))) (blkOk_by (own := [("its", 2)]) (by kernel_rfl)) rfl (fun _ _ _ _ _ => (xg_name 2 sc_sure_poly.nd rfl (.inl rfl))) (fun _ _ _ _ _ => xts_nil) (fun _ _ _ _ _ => (xor (xcmp os_gt (xOE (xbf RE.back cs_abs rfl (c.b 82 rfl) (by decide +kernel) (xa_consO (xOE (xix (xOE (xv 2 rfl (.inl rfl))) (xOE (xi 0)))) xa_nil))) (xOE (xgi c 95 rfl rfl rfl))) (xoneN (xcmp os_gt (xOE (xix (xOE (xv 2 rfl (.inl rfl))) (xOE (xi 1)))) (xOE (xgi c 95 rfl rfl rfl))))))))) xa_nil)))) (xss_cons xbad xss_nil) xss_nil) (xss_cons (xret (xv 1 rfl (.inl rfl))) xss_nil))))
/-! bare -/
def e_bare (Γ : Gam) : Nf.S := (sSeq (sAsgO 1 (eB bList (aCons (eVar 0) aNil))) (sSeq (sWhile (Nf.tAnd (tBl (eOp cNe (eOwn 1) (eLst aNil))) (tBl (eOp cEq (eOp oIx (eOwn 1) (eUn uNeg (eC (.int 1)))) (eC (.tup [.int 0, .int 1]))))) (sSeq (sPop 1) sNil)) (sSeq (sRet (eB bTuple (aCons (eVar 1) aNil))) sNil)))
theorem sc_bare : FnScope ["row", "found"] ["row"] (defScope (top 47)) := ⟨rfl, rfl, rfl, by decide +kernel, rfl, by decide +kernel, by decide +kernel⟩
theorem b_bare {fd : FuncData} {ad : Addr} {kws : List (PySem.Str × V)} (F : FunD K "bare" "bare" (defArgs (top 47)) (defBody (top 47)) (defScope (top 47)) [] kws ad fd) : Binds K fd ["row"] [] := F.bindsN fun _ _ _ _ _ _ us hl => match us, hl with | [_], _ => rfl
theorem f_bare (c : Cn fa fn tu K mg) : FunD K "bare" "bare" (defArgs (top 47)) (defBody (top 47)) (defScope (top 47)) [] [] (He.ga K "bare") (fdOf K (He.ga K "bare")) := c.f 31 (d := d_bare) rfl
theorem k_bare (c : Cn fa fn tu K mg) (Γ : Gam) : FO P w K mg base (k + 1) "bare" ["row"] (runDef 1 2 (e_bare Γ)) := by
  refine fok (N := ["row", "found"]) (fA K) (e_bare Γ) (f_bare c) sc_bare (by decide) ?_
  intro cdv A outer s0 H E ta hr hf
  exact (xss_cons (xsetO 1 sc_bare.nd rfl (.inl rfl) (xbt RN.back cs_list rfl (c.b 77 rfl) (by decide +kernel) (xa_consO (xOE (xv 0 rfl (.inl rfl))) xa_nil))) (xss_cons (xwhile PassesOwn.never (PW.pt (xw_and (xt_cmp os_ne (xo 1 rfl (.inl rfl)) (xOE (xEN (xlst xa_nil)))) (xw_and1 (xt_cmp os_eq (xOE (xix (xo 1 rfl (.inl rfl)) (xOE (xun us_neg (xOE (xi 1)))))) (xOE (xgt (ns := [0, 1]) c 97 0 rfl rfl rfl rfl rfl)))))) (xss_cons (xpop 1 rfl (.inl rfl)) xss_nil)) (xss_cons (xret (xbt RE.back cs_tuple rfl (c.b 76 rfl) (by decide +kernel) (xa_consO (xOE (xv 1 rfl (.inl rfl))) xa_nil))) xss_nil)))
/-! plus_in -/
def e_plus_in (Γ : Gam) : Nf.S := (sSeq (sAsg (Nf.gName 2) (eB bMax (aCons (eB bLen (aCons (eVar 0) aNil)) (aCons (eB bLen (aCons (eVar 1) aNil)) aNil)))) (sSeq (sPar [(3, false), (4, false)] (aCons (eOp oAdd (eVar 0) (eOp oMul (eTup (aCons (eC (.tup [.int 0, .int 1])) aNil)) (eOp oSub (eVar 2) (eB bLen (aCons (eVar 0) aNil))))) (aCons (eOp oAdd (eVar 1) (eOp oMul (eTup (aCons (eC (.tup [.int 0, .int 1])) aNil)) (eOp oSub (eVar 2) (eB bLen (aCons (eVar 1) aNil))))) aNil))) (sSeq (sRet (eCall Γ c_bare (aCons (eComp (iZip (aCons (eVar 3) (aCons (eVar 4) aNil))) (Nf.gTup [(Nf.gName 5), (Nf.gName 6)]) [5, 6] Nf.tYes (eCall Γ c_plus (aCons (eVar 5) (aCons (eVar 6) aNil)))) aNil))) sNil)))
theorem sc_plus_in : FnScope ["one", "other", "long", "near", "far", "own", "its"] ["one", "other"] (defScope (top 48)) := ⟨rfl, rfl, rfl, by decide +kernel, rfl, by decide +kernel, by decide +kernel⟩
theorem b_plus_in {fd : FuncData} {ad : Addr} {kws : List (PySem.Str × V)} (F : FunD K "plus_in" "plus_in" (defArgs (top 48)) (defBody (top 48)) (defScope (top 48)) [] kws ad fd) : Binds K fd ["one", "other"] [] := F.bindsN fun _ _ _ _ _ _ us hl => match us, hl with | [_, _], _ => rfl
theorem f_plus_in (c : Cn fa fn tu K mg) : FunD K "plus_in" "plus_in" (defArgs (top 48)) (defBody (top 48)) (defScope (top 48)) [] [] (He.ga K "plus_in") (fdOf K (He.ga K "plus_in")) := c.f 32 (d := d_plus_in) rfl
theorem k_plus_in (c : Cn fa fn tu K mg) (Γ : Gam) (h_bare : FO P w K mg base k "bare" ["row"] (Γ c_bare)) (h_plus : FO P w K mg base k "plus" ["one", "other"] (Γ c_plus)) : FO P w K mg base (k + 1) "plus_in" ["one", "other"] (runDef 2 7 (e_plus_in Γ)) := by
  refine fok (N := ["one", "other", "long", "near", "far", "own", "its"]) (fA K) (e_plus_in Γ) (f_plus_in c) sc_plus_in (by decide) ?_
  intro cdv A outer s0 H E ta hr hf
  exact (xss_cons (xset 2 sc_plus_in.nd rfl (.inl rfl) (xbf RE.back cs_max rfl (c.b 83 rfl) (by decide +kernel) (xa_consO (xOE (xbf RE.back cs_len rfl (c.b 70 rfl) (by decide +kernel) (xa_consO (xOE (xv 0 rfl (.inl rfl))) xa_nil))) (xa_consO (xOE (xbf RE.back cs_len rfl (c.b 70 rfl) (by decide +kernel) (xa_consO (xOE (xv 1 rfl (.inl rfl))) xa_nil))) xa_nil)))) (xss_cons (xpar2 (b1 := false) (b2 := false) sc_plus_in.nd (i := 3)  (j := 4) rfl rfl (by decide) rfl rfl (xm_e (xopE os_add (xOE (xv 0 rfl (.inl rfl))) (xOE (xopE os_mul (xOE (xtup (xa_cons (xgt (ns := [0, 1]) c 97 0 rfl rfl rfl rfl rfl) xa_nil))) (xOE (xopE os_sub (xOE (xv 2 rfl (.inl rfl))) (xOE (xbf RE.back cs_len rfl (c.b 70 rfl) (by decide +kernel) (xa_consO (xOE (xv 0 rfl (.inl rfl))) xa_nil)))))))) (xm_e (xopE os_add (xOE (xv 1 rfl (.inl rfl))) (xOE (xopE os_mul (xOE (xtup (xa_cons (xgt (ns := [0, 1]) c 97 0 rfl rfl rfl rfl rfl) xa_nil))) (xOE (xopE os_sub (xOE (xv 2 rfl (.inl rfl))) (xOE (xbf RE.back cs_len rfl (c.b 70 rfl) (by decide +kernel) (xa_consO (xOE (xv 1 rfl (.inl rfl))) xa_nil)))))))) xm_nil)) rfl) (xss_cons (xret (xcall Γ c_bare h_bare hr rfl (c.g 31 rfl) (f_bare c).kp (b_bare (f_bare c)) (xa_cons (xEN (xcomp [5, 6] sc_plus_in.nd (xiG (xi_zip rfl (c.b 79 rfl) (xa_cons (xv 3 rfl (.inl rfl)) (xa_cons (xv 4 rfl (.inl rfl)) xa_nil)))) (blkOk_by (own := [("own", 5), ("its", 6)]) (by kernel_rfl)) rfl (fun _ _ _ _ _ => (xg_tup (xgs_cons (xg_name 5 sc_plus_in.nd rfl (.inl rfl)) (xgs_cons (xg_name 6 sc_plus_in.nd rfl (.inl rfl)) xgs_nil)))) (fun _ _ _ _ _ => xts_nil) (fun _ _ _ _ _ => (xcall Γ c_plus h_plus hr rfl (c.g 10 rfl) (f_plus c).kp (b_plus (f_plus c)) (xa_cons (xv 5 rfl (.inl rfl)) (xa_cons (xv 6 rfl (.inl rfl)) xa_nil)))))) xa_nil))) xss_nil)))
/-! scaled_in -/
def e_scaled_in (Γ : Gam) : Nf.S := (sSeq (sRet (eCall Γ c_bare (aCons (eComp (iSeq (eVar 0)) (Nf.gName 2) [2] Nf.tYes (eCall Γ c_times (aCons (eVar 2) (aCons (eVar 1) aNil)))) aNil))) sNil)
theorem sc_scaled_in : FnScope ["poly", "by", "own"] ["poly", "by"] (defScope (top 49)) := ⟨rfl, rfl, rfl, by decide +kernel, rfl, by decide +kernel, by decide +kernel⟩
theorem b_scaled_in {fd : FuncData} {ad : Addr} {kws : List (PySem.Str × V)} (F : FunD K "scaled_in" "scaled_in" (defArgs (top 49)) (defBody (top 49)) (defScope (top 49)) [] kws ad fd) : Binds K fd ["poly", "by"] [] := F.bindsN fun _ _ _ _ _ _ us hl => match us, hl with | [_, _], _ => rfl
theorem f_scaled_in (c : Cn fa fn tu K mg) : FunD K "scaled_in" "scaled_in" (defArgs (top 49)) (defBody (top 49)) (defScope (top 49)) [] [] (He.ga K "scaled_in") (fdOf K (He.ga K "scaled_in")) := c.f 33 (d := d_scaled_in) rfl
theorem k_scaled_in (c : Cn fa fn tu K mg) (Γ : Gam) (h_bare : FO P w K mg base k "bare" ["row"] (Γ c_bare)) (h_times : FO P w K mg base k "times" ["one", "other"] (Γ c_times)) : FO P w K mg base (k + 1) "scaled_in" ["poly", "by"] (runDef 2 3 (e_scaled_in Γ)) := by
  refine fok (N := ["poly", "by", "own"]) (fA K) (e_scaled_in Γ) (f_scaled_in c) sc_scaled_in (by decide) ?_
  intro cdv A outer s0 H E ta hr hf
  exact (xss_cons (xret (xcall Γ c_bare h_bare hr rfl (c.g 31 rfl) (f_bare c).kp (b_bare (f_bare c)) (xa_cons (xEN (xcomp [2] sc_scaled_in.nd (xiG (xi_seq (xv 0 rfl (.inl rfl)))) (blkOk_by (own := [("own", 2)]) (by kernel_rfl)) rfl (fun _ _ _ _ _ => (xg_name 2 sc_scaled_in.nd rfl (.inl rfl))) (fun _ _ _ _ _ => xts_nil) (fun _ _ _ _ _ => (xcall Γ c_times h_times hr rfl (c.g 11 rfl) (f_times c).kp (b_times (f_times c)) (xa_cons (xv 2 rfl (.inl rfl)) (xa_cons (xv 1 rfl (.inr (.inl rfl))) xa_nil)))))) xa_nil))) xss_nil)
/-! whole_row -/
def e_whole_row (Γ : Gam) : Nf.S := (sSeq (sAsg (Nf.gName 1) (eC (.int 1))) (sSeq (sFor (iSeq (eVar 0)) (Nf.gName 2) (sSeq (sAsg (Nf.gName 1) (eCall Γ c_least_of (aCons (eVar 1) (aCons (eOp oIx (eVar 2) (eC (.int 1))) aNil)))) sNil)) (sSeq (sRet (eTup (aCons (eVar 1) (aCons (eComp (iSeq (eVar 0)) (Nf.gName 2) [2] Nf.tYes (eOp oMul (eOp oIx (eVar 2) (eC (.int 0))) (eOp oDiv (eVar 1) (eOp oIx (eVar 2) (eC (.int 1)))))) aNil)))) sNil)))
theorem sc_whole_row : FnScope ["poly", "under", "own"] ["poly"] (defScope (top 50)) := ⟨rfl, rfl, rfl, by decide +kernel, rfl, by decide +kernel, by decide +kernel⟩
theorem b_whole_row {fd : FuncData} {ad : Addr} {kws : List (PySem.Str × V)} (F : FunD K "whole_row" "whole_row" (defArgs (top 50)) (defBody (top 50)) (defScope (top 50)) [] kws ad fd) : Binds K fd ["poly"] [] := F.bindsN fun _ _ _ _ _ _ us hl => match us, hl with | [_], _ => rfl
theorem f_whole_row (c : Cn fa fn tu K mg) : FunD K "whole_row" "whole_row" (defArgs (top 50)) (defBody (top 50)) (defScope (top 50)) [] [] (He.ga K "whole_row") (fdOf K (He.ga K "whole_row")) := c.f 34 (d := d_whole_row) rfl
theorem k_whole_row (c : Cn fa fn tu K mg) (Γ : Gam) (h_least_of : FO P w K mg base k "least_of" ["one", "other"] (Γ c_least_of)) : FO P w K mg base (k + 1) "whole_row" ["poly"] (runDef 1 3 (e_whole_row Γ)) := by
  refine fok (N := ["poly", "under", "own"]) (fA K) (e_whole_row Γ) (f_whole_row c) sc_whole_row (by decide) ?_
  intro cdv A outer s0 H E ta hr hf
  exact (xss_cons (xset 1 sc_whole_row.nd rfl (.inr rfl) (xi 1)) (xss_cons (xfor PassesOwn.never (xi_seq (xv 0 rfl (.inl rfl))) (xg_name 2 sc_whole_row.nd rfl (.inl rfl)) (xss_cons (xset 1 sc_whole_row.nd rfl (.inr rfl) (xcall Γ c_least_of h_least_of hr rfl (c.g 8 rfl) (f_least_of c).kp (b_least_of (f_least_of c)) (xa_cons (xv 1 rfl (.inr (.inl rfl))) (xa_cons (xix (xOE (xv 2 rfl (.inl rfl))) (xOE (xi 1))) xa_nil)))) xss_nil)) (xss_cons (xret (xtup (xa_cons (xv 1 rfl (.inr (.inl rfl))) (xa_cons (xEN (xcomp [2] sc_whole_row.nd (xiG (xi_seq (xv 0 rfl (.inl rfl)))) (blkOk_by (own := [("own", 2)]) (by kernel_rfl)) rfl (fun _ _ _ _ _ => (xg_name 2 sc_whole_row.nd rfl (.inl rfl))) (fun _ _ _ _ _ => xts_nil) (fun _ _ _ _ _ => (xopE os_mul (xOE (xix (xOE (xv 2 rfl (.inl rfl))) (xOE (xi 0)))) (xOE (xopE os_div (xOE (xv 1 rfl (.inr (.inl rfl)))) (xOE (xix (xOE (xv 2 rfl (.inl rfl))) (xOE (xi 1)))))))))) xa_nil)))) xss_nil)))
/-! value_in -/
def e_value_in (Γ : Gam) : Nf.S := (sSeq (sAsg (Nf.gTup [(Nf.gName 2), (Nf.gName 3)]) (eCall Γ c_whole_row (aCons (eVar 0) aNil))) (sSeq (sAsg (Nf.gName 4) (eC (.int 0))) (sSeq (sFor (iRev (eVar 3)) (Nf.gName 5) (sSeq (sAsg (Nf.gName 4) (eOp oAdd (eOp oMul (eVar 4) (eVar 1)) (eVar 5))) sNil)) (sSeq (sRet (eCall Γ c_slim (aCons (eVar 4) (aCons (eVar 2) aNil)))) sNil))))
theorem sc_value_in : FnScope ["poly", "number", "under", "row", "found", "own"] ["poly", "number"] (defScope (top 51)) := ⟨rfl, rfl, rfl, by decide +kernel, rfl, by decide +kernel, by decide +kernel⟩
theorem b_value_in {fd : FuncData} {ad : Addr} {kws : List (PySem.Str × V)} (F : FunD K "value_in" "value_in" (defArgs (top 51)) (defBody (top 51)) (defScope (top 51)) [] kws ad fd) : Binds K fd ["poly", "number"] [] := F.bindsN fun _ _ _ _ _ _ us hl => match us, hl with | [_, _], _ => rfl
theorem f_value_in (c : Cn fa fn tu K mg) : FunD K "value_in" "value_in" (defArgs (top 51)) (defBody (top 51)) (defScope (top 51)) [] [] (He.ga K "value_in") (fdOf K (He.ga K "value_in")) := c.f 35 (d := d_value_in) rfl
theorem k_value_in (c : Cn fa fn tu K mg) (Γ : Gam) (h_whole_row : FO P w K mg base k "whole_row" ["poly"] (Γ c_whole_row)) (h_slim : FO P w K mg base k "slim" ["over", "under"] (Γ c_slim)) : FO P w K mg base (k + 1) "value_in" ["poly", "number"] (runDef 2 6 (e_value_in Γ)) := by
  refine fok (N := ["poly", "number", "under", "row", "found", "own"]) (fA K) (e_value_in Γ) (f_value_in c) sc_value_in (by decide) ?_
  intro cdv A outer s0 H E ta hr hf
  exact (xss_cons (xasg (xcall Γ c_whole_row h_whole_row hr rfl (c.g 34 rfl) (f_whole_row c).kp (b_whole_row (f_whole_row c)) (xa_cons (xv 0 rfl (.inl rfl)) xa_nil)) (xg_tup (xgs_cons (xg_name 2 sc_value_in.nd rfl (.inl rfl)) (xgs_cons (xg_name 3 sc_value_in.nd rfl (.inl rfl)) xgs_nil)))) (xss_cons (xset 4 sc_value_in.nd rfl (.inl rfl) (xi 0)) (xss_cons (xfor PassesOwn.never (xi_rev rfl (c.b 87 rfl) (xv 3 rfl (.inl rfl))) (xg_name 5 sc_value_in.nd rfl (.inl rfl)) (xss_cons (xset 4 sc_value_in.nd rfl (.inl rfl) (xopE os_add (xOE (xopE os_mul (xOE (xv 4 rfl (.inl rfl))) (xOE (xv 1 rfl (.inl rfl))))) (xOE (xv 5 rfl (.inl rfl))))) xss_nil)) (xss_cons (xret (xcall Γ c_slim h_slim hr rfl (c.g 9 rfl) (f_slim c).kp (b_slim (f_slim c)) (xa_cons (xv 4 rfl (.inl rfl)) (xa_cons (xv 2 rfl (.inl rfl)) xa_nil)))) xss_nil))))
/-! roots_product -/
def e_roots_product (Γ : Gam) : Nf.S := (sSeq (sAsgO 1 (eLst (aCons (eC (.int 1)) aNil))) (sSeq (sFor (iSeq (eVar 0)) (Nf.gName 2) (sSeq (sAsgO 1 (eOp oAddL (eLst (aCons (eC (.int 0)) aNil)) (eOwn 1))) (sSeq (sFor (iRange1 (aCons (eOp oSub (eB bLen (aCons (eOwn 1) aNil)) (eC (.int 1))) aNil)) (Nf.gName 3) (sSeq (sSet 1 (eVar 3) (eOp oSub (eOp oIx (eOwn 1) (eVar 3)) (eOp oMul (eVar 2) (eOp oIx (eOwn 1) (eOp oAdd (eVar 3) (eC (.int 1))))))) sNil)) sNil))) (sSeq (sRet (eB bTuple (aCons (eComp (iSeq (eVar 1)) (Nf.gName 4) [4] Nf.tYes (eTup (aCons (eVar 4) (aCons (eC (.int 1)) aNil)))) aNil))) sNil)))
theorem sc_roots_product : FnScope ["numbers", "row", "number", "place", "own"] ["numbers"] (defScope (top 52)) := ⟨rfl, rfl, rfl, by decide +kernel, rfl, by decide +kernel, by decide +kernel⟩
theorem b_roots_product {fd : FuncData} {ad : Addr} {kws : List (PySem.Str × V)} (F : FunD K "roots_product" "roots_product" (defArgs (top 52)) (defBody (top 52)) (defScope (top 52)) [] kws ad fd) : Binds K fd ["numbers"] [] := F.bindsN fun _ _ _ _ _ _ us hl => match us, hl with | [_], _ => rfl
theorem f_roots_product (c : Cn fa fn tu K mg) : FunD K "roots_product" "roots_product" (defArgs (top 52)) (defBody (top 52)) (defScope (top 52)) [] [] (He.ga K "roots_product") (fdOf K (He.ga K "roots_product")) := c.f 36 (d := d_roots_product) rfl
theorem k_roots_product (c : Cn fa fn tu K mg) (Γ : Gam) : FO P w K mg base (k + 1) "roots_product" ["numbers"] (runDef 1 5 (e_roots_product Γ)) := by
  refine fok (N := ["numbers", "row", "number", "place", "own"]) (fA K) (e_roots_product Γ) (f_roots_product c) sc_roots_product (by decide) ?_
  intro cdv A outer s0 H E ta hr hf
  exact (xss_cons (xsetO 1 sc_roots_product.nd rfl (.inl rfl) (xlst (xa_cons (xi 1) xa_nil))) (xss_cons (xfor PassesOwn.never (xi_seq (xv 0 rfl (.inl rfl))) (xg_name 2 sc_roots_product.nd rfl (.inl rfl)) (xss_cons (xsetO 1 sc_roots_product.nd rfl (.inl rfl) (xopN os_addL (xOE (xEN (xlst (xa_cons (xi 0) xa_nil)))) (xo 1 rfl (.inl rfl)))) (xss_cons (xfor PassesOwn.never (xi_range1 rfl (c.b 78 rfl) (xa_consO (xOE (xopE os_sub (xOE (xbf RE.back cs_len rfl (c.b 70 rfl) (by decide +kernel) (xa_consO (xo 1 rfl (.inl rfl)) xa_nil))) (xOE (xi 1)))) xa_nil)) (xg_name 3 sc_roots_product.nd rfl (.inl rfl)) (xss_cons (xsetIx 1 (xopE os_sub (xOE (xix (xo 1 rfl (.inl rfl)) (xOE (xv 3 rfl (.inl rfl))))) (xOE (xopE os_mul (xOE (xv 2 rfl (.inl rfl))) (xOE (xix (xo 1 rfl (.inl rfl)) (xOE (xopE os_add (xOE (xv 3 rfl (.inl rfl))) (xOE (xi 1))))))))) (xOE (xv 3 rfl (.inl rfl))) rfl (.inl rfl)) xss_nil)) xss_nil))) (xss_cons (xret (xbt RE.back cs_tuple rfl (c.b 76 rfl) (by decide +kernel) (xa_consO (xOE (xEN (xcomp [4] sc_roots_product.nd (xiG (xi_seq (xv 1 rfl (.inl rfl)))) (blkOk_by (own := [("own", 4)]) (by kernel_rfl)) rfl (fun _ _ _ _ _ => (xg_name 4 sc_roots_product.nd rfl (.inl rfl))) (fun _ _ _ _ _ => xts_nil) (fun _ _ _ _ _ => (xtup (xa_cons (xv 4 rfl (.inl rfl)) (xa_cons (xi 1) xa_nil))))))) xa_nil))) xss_nil)))
/-! places_in -/
def e_places_in (Γ : Gam) : Nf.S := (sSeq (sAsg (Nf.gTup [(Nf.gName 3), (Nf.gName 4)]) (eTup (aCons (eOp oMul (eLst (aCons (eC (.int 0)) aNil)) (eVar 1)) (aCons (eC (.int 1)) aNil)))) (sSeq (sFor (iSeq (eVar 2)) (Nf.gName 5) (sSeq (sAsg (Nf.gName 6) (eCall Γ c_order_row (aCons (eVar 0) (aCons (eVar 5) (aCons (eOp oAdd (eVar 1) (eC (.int 1))) aNil))))) (sSeq (sAsg (Nf.gName 7) (eC (.int 1))) (sSeq (sFor (iRange1 (aCons (eOp oIx (eOp oIx (eVar 6) (eVar 1)) (eC (.int 0))) aNil)) (Nf.gName 8) (sSeq (sAsg (Nf.gName 7) (eOp oMul (eVar 7) (eVar 5))) sNil)) (sSeq (sIf (tBl (eOp cGt (eVar 7) (eC (.int 1)))) (sSeq (sAsg (Nf.gName 3) (eComp (iZip (aCons (eVar 3) (aCons (eVar 6) aNil))) (Nf.gTup [(Nf.gName 9), (Nf.gName 10)]) [9, 10] Nf.tYes (eCall Γ c_joined_rest (aCons (eVar 9) (aCons (eVar 4) (aCons (eOp oMod (eOp oIx (eVar 10) (eC (.int 1))) (eVar 7)) (aCons (eVar 7) aNil))))))) (sSeq (sAsg (Nf.gName 4) (eOp oMul (eVar 4) (eVar 7))) sNil)) sNil) sNil))))) (sSeq (sRet (eVar 3)) sNil)))
theorem sc_places_in : FnScope ["own", "number", "primes", "found", "size", "prime", "row", "step", "lap", "rest", "its"] ["own", "number", "primes"] (defScope (top 55)) := ⟨rfl, rfl, rfl, by decide +kernel, rfl, by decide +kernel, by decide +kernel⟩
theorem b_places_in {fd : FuncData} {ad : Addr} {kws : List (PySem.Str × V)} (F : FunD K "places_in" "places_in" (defArgs (top 55)) (defBody (top 55)) (defScope (top 55)) [] kws ad fd) : Binds K fd ["own", "number", "primes"] [] := F.bindsN fun _ _ _ _ _ _ us hl => match us, hl with | [_, _, _], _ => rfl
theorem f_places_in (c : Cn fa fn tu K mg) : FunD K "places_in" "places_in" (defArgs (top 55)) (defBody (top 55)) (defScope (top 55)) [] [] (He.ga K "places_in") (fdOf K (He.ga K "places_in")) := c.f 37 (d := d_places_in) rfl
theorem k_places_in (c : Cn fa fn tu K mg) (Γ : Gam) (h_order_row : FO P w K mg base k "order_row" ["own", "prime", "many"] (Γ c_order_row)) (h_joined_rest : FO P w K mg base k "joined_rest" ["rest", "size", "other", "far"] (Γ c_joined_rest)) : FO P w K mg base (k + 1) "places_in" ["own", "number", "primes"] (runDef 3 11 (e_places_in Γ)) := by
  refine fok (N := ["own", "number", "primes", "found", "size", "prime", "row", "step", "lap", "rest", "its"]) (fA K) (e_places_in Γ) (f_places_in c) sc_places_in (by decide) ?_
  intro cdv A outer s0 H E ta hr hf
  exact (xss_cons (xasg (xtup (xa_cons (xopE os_mul (xOE (xEN (xlst (xa_cons (xi 0) xa_nil)))) (xOE (xv 1 rfl (.inl rfl)))) (xa_cons (xi 1) xa_nil))) (xg_tup (xgs_cons (xg_name 3 sc_places_in.nd rfl (.inl rfl)) (xgs_cons (xg_name 4 sc_places_in.nd rfl (.inr rfl)) xgs_nil)))) (xss_cons (xfor PassesOwn.never (xi_seq (xv 2 rfl (.inl rfl))) (xg_name 5 sc_places_in.nd rfl (.inl rfl)) (xss_cons (xset 6 sc_places_in.nd rfl (.inl rfl) (xcall Γ c_order_row h_order_row hr rfl (c.g 24 rfl) (f_order_row c).kp (b_order_row (f_order_row c)) (xa_cons (xv 0 rfl (.inl rfl)) (xa_cons (xv 5 rfl (.inl rfl)) (xa_cons (xopE os_add (xOE (xv 1 rfl (.inl rfl))) (xOE (xi 1))) xa_nil))))) (xss_cons (xset 7 sc_places_in.nd rfl (.inr rfl) (xi 1)) (xss_cons (xfor PassesOwn.never (xi_range1 rfl (c.b 78 rfl) (xa_consO (xOE (xix (xOE (xix (xOE (xv 6 rfl (.inl rfl))) (xOE (xv 1 rfl (.inl rfl))))) (xOE (xi 0)))) xa_nil)) (xg_name 8 sc_places_in.nd rfl (.inl rfl)) (xss_cons (xset 7 sc_places_in.nd rfl (.inr rfl) (xopE os_mul (xOE (xv 7 rfl (.inr (.inl rfl)))) (xOE (xv 5 rfl (.inl rfl))))) xss_nil)) (xss_cons (xif' (xt_cmp os_gt (xOE (xv 7 rfl (.inr (.inl rfl)))) (xOE (xi 1))) (xss_cons (xsetLcF 3 [9, 10] sc_places_in.nd rfl rfl (sw_true rfl rfl rfl rfl) (xiG (xi_zip rfl (c.b 79 rfl) (xa_cons (xv 3 rfl (.inl rfl)) (xa_cons (xv 6 rfl (.inl rfl)) xa_nil)))) (blkOk_by (own := [("rest", 9), ("its", 10)]) (by kernel_rfl)) rfl (fun _ _ _ _ _ => (xg_tup (xgs_cons (xg_name 9 sc_places_in.nd rfl (.inl rfl)) (xgs_cons (xg_name 10 sc_places_in.nd rfl (.inl rfl)) xgs_nil)))) (fun _ _ _ _ _ => xts_nil) (fun _ _ _ _ _ => (xcall Γ c_joined_rest h_joined_rest hr rfl (c.g 15 rfl) (f_joined_rest c).kp (b_joined_rest (f_joined_rest c)) (xa_cons (xv 9 rfl (.inl rfl)) (xa_cons (xv 4 rfl (.inr (.inl rfl))) (xa_cons (xopE os_mod (xOE (xix (xOE (xv 10 rfl (.inl rfl))) (xOE (xi 1)))) (xOE (xv 7 rfl (.inr (.inl rfl))))) (xa_cons (xv 7 rfl (.inr (.inl rfl))) xa_nil))))))) (xss_cons (xset 4 sc_places_in.nd rfl (.inr rfl) (xopE os_mul (xOE (xv 4 rfl (.inr (.inl rfl)))) (xOE (xv 7 rfl (.inr (.inl rfl)))))) xss_nil)) xss_nil) xss_nil))))) (xss_cons (xret (xv 3 rfl (.inl rfl))) xss_nil)))
/-! base_in -/
def e_base_in (Γ : Gam) : Nf.S := (sSeq (sAsg (Nf.gName 3) (eCall Γ c_factorial_by (aCons (eVar 0) (aCons (eVar 1) (aCons (eVar 2) aNil))))) (sSeq (sRet (eCall Γ c_scaled_in (aCons (eCall Γ c_roots_product (aCons (eCall Γ c_places_in (aCons (eVar 0) (aCons (eVar 1) (aCons (eVar 2) aNil)))) aNil)) (aCons (eTup (aCons (eC (.int 1)) (aCons (eB bMax (aCons (eVar 3) (aCons (eC (.int 1)) aNil))) aNil))) aNil)))) sNil))
theorem sc_base_in : FnScope ["own", "number", "primes", "under"] ["own", "number", "primes"] (defScope (top 56)) := ⟨rfl, rfl, rfl, by decide +kernel, rfl, by decide +kernel, by decide +kernel⟩
theorem b_base_in {fd : FuncData} {ad : Addr} {kws : List (PySem.Str × V)} (F : FunD K "base_in" "base_in" (defArgs (top 56)) (defBody (top 56)) (defScope (top 56)) [] kws ad fd) : Binds K fd ["own", "number", "primes"] [] := F.bindsN fun _ _ _ _ _ _ us hl => match us, hl with | [_, _, _], _ => rfl
theorem f_base_in (c : Cn fa fn tu K mg) : FunD K "base_in" "base_in" (defArgs (top 56)) (defBody (top 56)) (defScope (top 56)) [] [] (He.ga K "base_in") (fdOf K (He.ga K "base_in")) := c.f 38 (d := d_base_in) rfl
theorem k_base_in (c : Cn fa fn tu K mg) (Γ : Gam) (h_factorial_by : FO P w K mg base k "factorial_by" ["own", "number", "primes"] (Γ c_factorial_by)) (h_scaled_in : FO P w K mg base k "scaled_in" ["poly", "by"] (Γ c_scaled_in)) (h_roots_product : FO P w K mg base k "roots_product" ["numbers"] (Γ c_roots_product)) (h_places_in : FO P w K mg base k "places_in" ["own", "number", "primes"] (Γ c_places_in)) : FO P w K mg base (k + 1) "base_in" ["own", "number", "primes"] (runDef 3 4 (e_base_in Γ)) := by
  refine fok (N := ["own", "number", "primes", "under"]) (fA K) (e_base_in Γ) (f_base_in c) sc_base_in (by decide) ?_
  intro cdv A outer s0 H E ta hr hf
  exact (xss_cons (xset 3 sc_base_in.nd rfl (.inl rfl) (xcall Γ c_factorial_by h_factorial_by hr rfl (c.g 28 rfl) (f_factorial_by c).kp (b_factorial_by (f_factorial_by c)) (xa_cons (xv 0 rfl (.inl rfl)) (xa_cons (xv 1 rfl (.inl rfl)) (xa_cons (xv 2 rfl (.inl rfl)) xa_nil))))) (xss_cons (xret (xcall Γ c_scaled_in h_scaled_in hr rfl (c.g 33 rfl) (f_scaled_in c).kp (b_scaled_in (f_scaled_in c)) (xa_cons (xcall Γ c_roots_product h_roots_product hr rfl (c.g 36 rfl) (f_roots_product c).kp (b_roots_product (f_roots_product c)) (xa_cons (xcall Γ c_places_in h_places_in hr rfl (c.g 37 rfl) (f_places_in c).kp (b_places_in (f_places_in c)) (xa_cons (xv 0 rfl (.inl rfl)) (xa_cons (xv 1 rfl (.inl rfl)) (xa_cons (xv 2 rfl (.inl rfl)) xa_nil)))) xa_nil)) (xa_cons (xtup (xa_cons (xi 1) (xa_cons (xbf RE.back cs_max rfl (c.b 83 rfl) (by decide +kernel) (xa_consO (xOE (xv 3 rfl (.inl rfl))) (xa_consO (xOE (xi 1)) xa_nil))) xa_nil))) xa_nil)))) xss_nil))
/-! shares_in -/
def e_shares_in (Γ : Gam) : Nf.S := (sSeq (sPar [(2, false), (3, true), (4, false)] (aCons (eVar 1) (aCons (eOp oMulL (eLst (aCons (eC (.tup [.int 0, .int 1])) aNil)) (eB bLen (aCons (eVar 1) aNil))) (aCons (eCall Γ c_primes_in (aCons (eVar 0) (aCons (eB bLen (aCons (eVar 1) aNil)) aNil))) aNil)))) (sSeq (sWhile (tBl (eOp cNe (eVar 2) (eTup aNil))) (sSeq (sAsg (Nf.gName 5) (eOp oSub (eB bLen (aCons (eVar 2) aNil)) (eC (.int 1)))) (sSeq (sAsg (Nf.gName 6) (eCall Γ c_base_in (aCons (eVar 0) (aCons (eVar 5) (aCons (eVar 4) aNil))))) (sSeq (sAsg (Nf.gName 7) (eCall Γ c_times (aCons (eOp oIx (eVar 2) (eUn uNeg (eC (.int 1)))) (aCons (eTup (aCons (eOp oIx (eOp oIx (eVar 6) (eUn uNeg (eC (.int 1)))) (eC (.int 1))) (aCons (eOp oIx (eOp oIx (eVar 6) (eUn uNeg (eC (.int 1)))) (eC (.int 0))) aNil))) aNil)))) (sSeq (sSet 3 (eVar 5) (eVar 7)) (sSeq (sAsg (Nf.gName 2) (eCall Γ c_plus_in (aCons (eVar 2) (aCons (eCall Γ c_scaled_in (aCons (eVar 6) (aCons (eTup (aCons (eUn uNeg (eOp oIx (eVar 7) (eC (.int 0)))) (aCons (eOp oIx (eVar 7) (eC (.int 1))) aNil))) aNil))) aNil)))) sNil)))))) (sSeq (sRet (eVar 3)) sNil)))
theorem sc_shares_in : FnScope ["own", "poly", "left", "found", "primes", "number", "base", "share"] ["own", "poly"] (defScope (top 57)) := ⟨rfl, rfl, rfl, by decide +kernel, rfl, by decide +kernel, by decide +kernel⟩
theorem b_shares_in {fd : FuncData} {ad : Addr} {kws : List (PySem.Str × V)} (F : FunD K "shares_in" "shares_in" (defArgs (top 57)) (defBody (top 57)) (defScope (top 57)) [] kws ad fd) : Binds K fd ["own", "poly"] [] := F.bindsN fun _ _ _ _ _ _ us hl => match us, hl with | [_, _], _ => rfl
theorem f_shares_in (c : Cn fa fn tu K mg) : FunD K "shares_in" "shares_in" (defArgs (top 57)) (defBody (top 57)) (defScope (top 57)) [] [] (He.ga K "shares_in") (fdOf K (He.ga K "shares_in")) := c.f 39 (d := d_shares_in) rfl
theorem k_shares_in (c : Cn fa fn tu K mg) (Γ : Gam) (h_primes_in : FO P w K mg base k "primes_in" ["own", "number"] (Γ c_primes_in)) (h_base_in : FO P w K mg base k "base_in" ["own", "number", "primes"] (Γ c_base_in)) (h_times : FO P w K mg base k "times" ["one", "other"] (Γ c_times)) (h_plus_in : FO P w K mg base k "plus_in" ["one", "other"] (Γ c_plus_in)) (h_scaled_in : FO P w K mg base k "scaled_in" ["poly", "by"] (Γ c_scaled_in)) : FO P w K mg base (k + 1) "shares_in" ["own", "poly"] (runDef 2 8 (e_shares_in Γ)) := by
  refine fok (N := ["own", "poly", "left", "found", "primes", "number", "base", "share"]) (fA K) (e_shares_in Γ) (f_shares_in c) sc_shares_in (by decide) ?_
  intro cdv A outer s0 H E ta hr hf
  exact (xss_cons (xpar3 (b1 := false) (b2 := true) (b3 := false) sc_shares_in.nd (i := 2)  (j := 3)  (l := 4) rfl rfl rfl (by decide) (by decide) (by decide) rfl rfl rfl (xm_e (xv 1 rfl (.inl rfl)) (xm_n (xopN os_mulL (xOE (xEN (xlst (xa_cons (xgt (ns := [0, 1]) c 97 0 rfl rfl rfl rfl rfl) xa_nil)))) (xOE (xbf RE.back cs_len rfl (c.b 70 rfl) (by decide +kernel) (xa_consO (xOE (xv 1 rfl (.inl rfl))) xa_nil)))) (xm_e (xcall Γ c_primes_in h_primes_in hr rfl (c.g 27 rfl) (f_primes_in c).kp (b_primes_in (f_primes_in c)) (xa_cons (xv 0 rfl (.inl rfl)) (xa_cons (xbf RE.back cs_len rfl (c.b 70 rfl) (by decide +kernel) (xa_consO (xOE (xv 1 rfl (.inl rfl))) xa_nil)) xa_nil))) xm_nil))) rfl) (xss_cons (xwhile PassesOwn.never (xt_cmp os_ne (xOE (xv 2 rfl (.inl rfl))) (xOE (xtup xa_nil))) (xss_cons (xset 5 sc_shares_in.nd rfl (.inl rfl) (xopE os_sub (xOE (xbf RE.back cs_len rfl (c.b 70 rfl) (by decide +kernel) (xa_consO (xOE (xv 2 rfl (.inl rfl))) xa_nil))) (xOE (xi 1)))) (xss_cons (xset 6 sc_shares_in.nd rfl (.inl rfl) (xcall Γ c_base_in h_base_in hr rfl (c.g 38 rfl) (f_base_in c).kp (b_base_in (f_base_in c)) (xa_cons (xv 0 rfl (.inl rfl)) (xa_cons (xv 5 rfl (.inl rfl)) (xa_cons (xv 4 rfl (.inl rfl)) xa_nil))))) (xss_cons (xset 7 sc_shares_in.nd rfl (.inl rfl) (xcall Γ c_times h_times hr rfl (c.g 11 rfl) (f_times c).kp (b_times (f_times c)) (xa_cons (xix (xOE (xv 2 rfl (.inl rfl))) (xOE (xun us_neg (xOE (xi 1))))) (xa_cons (xtup (xa_cons (xix (xOE (xix (xOE (xv 6 rfl (.inl rfl))) (xOE (xun us_neg (xOE (xi 1)))))) (xOE (xi 1))) (xa_cons (xix (xOE (xix (xOE (xv 6 rfl (.inl rfl))) (xOE (xun us_neg (xOE (xi 1)))))) (xOE (xi 0))) xa_nil))) xa_nil)))) (xss_cons (xsetIx 3 (xv 7 rfl (.inl rfl)) (xOE (xv 5 rfl (.inl rfl))) rfl (.inl rfl)) (xss_cons (xset 2 sc_shares_in.nd rfl (.inl rfl) (xcall Γ c_plus_in h_plus_in hr rfl (c.g 32 rfl) (f_plus_in c).kp (b_plus_in (f_plus_in c)) (xa_cons (xv 2 rfl (.inl rfl)) (xa_cons (xcall Γ c_scaled_in h_scaled_in hr rfl (c.g 33 rfl) (f_scaled_in c).kp (b_scaled_in (f_scaled_in c)) (xa_cons (xv 6 rfl (.inl rfl)) (xa_cons (xtup (xa_cons (xun us_neg (xOE (xix (xOE (xv 7 rfl (.inl rfl))) (xOE (xi 0))))) (xa_cons (xix (xOE (xv 7 rfl (.inl rfl))) (xOE (xi 1))) xa_nil))) xa_nil))) xa_nil)))) xss_nil)))))) (xss_cons (xret (xv 3 rfl (.inl rfl))) xss_nil)))
/-! sum_in -/
def e_sum_in (Γ : Gam) : Nf.S := (sSeq (sPar [(2, false), (3, false)] (aCons (eTup aNil) (aCons (eCall Γ c_primes_in (aCons (eVar 0) (aCons (eB bLen (aCons (eVar 1) aNil)) aNil))) aNil))) (sSeq (sFor (iEnum (aCons (eVar 1) aNil)) (Nf.gTup [(Nf.gName 4), (Nf.gName 5)]) (sSeq (sIf (tBl (eOp cNe (eVar 5) (eC (.tup [.int 0, .int 1])))) (sSeq (sAsg (Nf.gName 2) (eCall Γ c_plus_in (aCons (eVar 2) (aCons (eCall Γ c_scaled_in (aCons (eCall Γ c_base_in (aCons (eVar 0) (aCons (eVar 4) (aCons (eVar 3) aNil)))) (aCons (eVar 5) aNil))) aNil)))) sNil) sNil) sNil)) (sSeq (sRet (eVar 2)) sNil)))
theorem sc_sum_in : FnScope ["own", "shares", "found", "primes", "number", "share"] ["own", "shares"] (defScope (top 58)) := ⟨rfl, rfl, rfl, by decide +kernel, rfl, by decide +kernel, by decide +kernel⟩
theorem b_sum_in {fd : FuncData} {ad : Addr} {kws : List (PySem.Str × V)} (F : FunD K "sum_in" "sum_in" (defArgs (top 58)) (defBody (top 58)) (defScope (top 58)) [] kws ad fd) : Binds K fd ["own", "shares"] [] := F.bindsN fun _ _ _ _ _ _ us hl => match us, hl with | [_, _], _ => rfl
theorem f_sum_in (c : Cn fa fn tu K mg) : FunD K "sum_in" "sum_in" (defArgs (top 58)) (defBody (top 58)) (defScope (top 58)) [] [] (He.ga K "sum_in") (fdOf K (He.ga K "sum_in")) := c.f 40 (d := d_sum_in) rfl
theorem k_sum_in (c : Cn fa fn tu K mg) (Γ : Gam) (h_primes_in : FO P w K mg base k "primes_in" ["own", "number"] (Γ c_primes_in)) (h_plus_in : FO P w K mg base k "plus_in" ["one", "other"] (Γ c_plus_in)) (h_scaled_in : FO P w K mg base k "scaled_in" ["poly", "by"] (Γ c_scaled_in)) (h_base_in : FO P w K mg base k "base_in" ["own", "number", "primes"] (Γ c_base_in)) : FO P w K mg base (k + 1) "sum_in" ["own", "shares"] (runDef 2 6 (e_sum_in Γ)) := by
  refine fok (N := ["own", "shares", "found", "primes", "number", "share"]) (fA K) (e_sum_in Γ) (f_sum_in c) sc_sum_in (by decide) ?_
  intro cdv A outer s0 H E ta hr hf
  exact (xss_cons (xpar2 (b1 := false) (b2 := false) sc_sum_in.nd (i := 2)  (j := 3) rfl rfl (by decide) rfl rfl (xm_e (xtup xa_nil) (xm_e (xcall Γ c_primes_in h_primes_in hr rfl (c.g 27 rfl) (f_primes_in c).kp (b_primes_in (f_primes_in c)) (xa_cons (xv 0 rfl (.inl rfl)) (xa_cons (xbf RE.back cs_len rfl (c.b 70 rfl) (by decide +kernel) (xa_consO (xOE (xv 1 rfl (.inl rfl))) xa_nil)) xa_nil))) xm_nil)) rfl) (xss_cons (xfor PassesOwn.never (xi_enum rfl (c.b 86 rfl) (xa_cons (xv 1 rfl (.inl rfl)) xa_nil)) (xg_tup (xgs_cons (xg_name 4 sc_sum_in.nd rfl (.inl rfl)) (xgs_cons (xg_name 5 sc_sum_in.nd rfl (.inl rfl)) xgs_nil))) (xss_cons (xif' (xt_cmp os_ne (xOE (xv 5 rfl (.inl rfl))) (xOE (xgt (ns := [0, 1]) c 97 0 rfl rfl rfl rfl rfl))) (xss_cons (xset 2 sc_sum_in.nd rfl (.inl rfl) (xcall Γ c_plus_in h_plus_in hr rfl (c.g 32 rfl) (f_plus_in c).kp (b_plus_in (f_plus_in c)) (xa_cons (xv 2 rfl (.inl rfl)) (xa_cons (xcall Γ c_scaled_in h_scaled_in hr rfl (c.g 33 rfl) (f_scaled_in c).kp (b_scaled_in (f_scaled_in c)) (xa_cons (xcall Γ c_base_in h_base_in hr rfl (c.g 38 rfl) (f_base_in c).kp (b_base_in (f_base_in c)) (xa_cons (xv 0 rfl (.inl rfl)) (xa_cons (xv 4 rfl (.inl rfl)) (xa_cons (xv 3 rfl (.inl rfl)) xa_nil)))) (xa_cons (xv 5 rfl (.inl rfl)) xa_nil))) xa_nil)))) xss_nil) xss_nil) xss_nil)) (xss_cons (xret (xv 2 rfl (.inl rfl))) xss_nil)))
/-! sure_low -/
def e_sure_low (Γ : Gam) : Nf.S := (sSeq (sAsg (Nf.gName 1) (eCall Γ c_sure_poly (aCons (eVar 0) aNil))) (sSeq (sIf (tBl (eOp cGt (eB bLen (aCons (eVar 1) aNil)) (eOp oAdd (eC (.int 24)) (eC (.int 1))))) (sSeq sBad sNil) sNil) (sSeq (sRet (eVar 1)) sNil)))
theorem sc_sure_low : FnScope ["poly", "own"] ["poly"] (defScope (top 59)) := ⟨rfl, rfl, rfl, by decide +kernel, rfl, by decide +kernel, by decide +kernel⟩
theorem b_sure_low {fd : FuncData} {ad : Addr} {kws : List (PySem.Str × V)} (F : FunD K "sure_low" "sure_low" (defArgs (top 59)) (defBody (top 59)) (defScope (top 59)) [] kws ad fd) : Binds K fd ["poly"] [] := F.bindsN fun _ _ _ _ _ _ us hl => match us, hl with | [_], _ => rfl
theorem f_sure_low (c : Cn fa fn tu K mg) : FunD K "sure_low" "sure_low" (defArgs (top 59)) (defBody (top 59)) (defScope (top 59)) [] [] (He.ga K "sure_low") (fdOf K (He.ga K "sure_low")) := c.f 41 (d := d_sure_low) rfl
theorem k_sure_low (c : Cn fa fn tu K mg) (Γ : Gam) (h_sure_poly : FO P w K mg base k "sure_poly" ["value"] (Γ c_sure_poly)) : FO P w K mg base (k + 1) "sure_low" ["poly"] (runDef 1 2 (e_sure_low Γ)) := by
  refine fok (N := ["poly", "own"]) (fA K) (e_sure_low Γ) (f_sure_low c) sc_sure_low (by decide) ?_
  intro cdv A outer s0 H E ta hr hf
  exact (xss_cons (xset 1 sc_sure_low.nd rfl (.inl rfl) (xcall Γ c_sure_poly h_sure_poly hr rfl (c.g 30 rfl) (f_sure_poly c).kp (b_sure_poly (f_sure_poly c)) (xa_cons (xv 0 rfl (.inl rfl)) xa_nil))) (xss_cons (xif' (xt_cmp os_gt (xOE (xbf RE.back cs_len rfl (c.b 70 rfl) (by decide +kernel) (xa_consO (xOE (xv 1 rfl (.inl rfl))) xa_nil))) (xOE (xopE os_add (xOE (xgi c 98 rfl rfl rfl)) (xOE (xi 1))))) (xss_cons xbad xss_nil) xss_nil) (xss_cons (xret (xv 1 rfl (.inl rfl))) xss_nil)))
/-! poly_shares -/
def e_poly_shares (Γ : Gam) : Nf.S := (sSeq (sAsg (Nf.gName 2) (eCall Γ c_sure_set (aCons (eVar 0) aNil))) (sSeq (sAsg (Nf.gName 3) (eCall Γ c_sure_low (aCons (eVar 1) aNil))) (sSeq (sIf (Nf.tAnd (tBl (eOp cEq (eOp oIx (eVar 2) (eC (.int 1))) (eTup aNil))) (tBl (eOp cGt (eB bLen (aCons (eVar 3) aNil)) (eB bLen (aCons (eOp oIx (eVar 2) (eC (.int 2))) aNil))))) (sSeq sBad sNil) sNil) (sSeq (sRet (eB bTuple (aCons (eCall Γ c_shares_in (aCons (eVar 2) (aCons (eVar 3) aNil))) aNil))) sNil))))
theorem sc_poly_shares : FnScope ["lot", "poly", "own", "told"] ["lot", "poly"] (defScope (top 60)) := ⟨rfl, rfl, rfl, by decide +kernel, rfl, by decide +kernel, by decide +kernel⟩
theorem b_poly_shares {fd : FuncData} {ad : Addr} {kws : List (PySem.Str × V)} (F : FunD K "poly_shares" "poly_shares" (defArgs (top 60)) (defBody (top 60)) (defScope (top 60)) [] kws ad fd) : Binds K fd ["lot", "poly"] [] := F.bindsN fun _ _ _ _ _ _ us hl => match us, hl with | [_, _], _ => rfl
theorem f_poly_shares (c : Cn fa fn tu K mg) : FunD K "poly_shares" "poly_shares" (defArgs (top 60)) (defBody (top 60)) (defScope (top 60)) [] [] (He.ga K "poly_shares") (fdOf K (He.ga K "poly_shares")) := c.f 42 (d := d_poly_shares) rfl
theorem k_poly_shares (c : Cn fa fn tu K mg) (Γ : Gam) (h_sure_set : FO P w K mg base k "sure_set" ["value"] (Γ c_sure_set)) (h_sure_low : FO P w K mg base k "sure_low" ["poly"] (Γ c_sure_low)) (h_shares_in : FO P w K mg base k "shares_in" ["own", "poly"] (Γ c_shares_in)) : FO P w K mg base (k + 1) "poly_shares" ["lot", "poly"] (runDef 2 4 (e_poly_shares Γ)) := by
  refine fok (N := ["lot", "poly", "own", "told"]) (fA K) (e_poly_shares Γ) (f_poly_shares c) sc_poly_shares (by decide) ?_
  intro cdv A outer s0 H E ta hr hf
  exact (xss_cons (xset 2 sc_poly_shares.nd rfl (.inl rfl) (xcall Γ c_sure_set h_sure_set hr rfl (c.g 19 rfl) (f_sure_set c).kp (b_sure_set (f_sure_set c)) (xa_cons (xv 0 rfl (.inl rfl)) xa_nil))) (xss_cons (xset 3 sc_poly_shares.nd rfl (.inl rfl) (xcall Γ c_sure_low h_sure_low hr rfl (c.g 41 rfl) (f_sure_low c).kp (b_sure_low (f_sure_low c)) (xa_cons (xv 1 rfl (.inl rfl)) xa_nil))) (xss_cons (xif' (PW.pt (xw_and (xt_cmp os_eq (xOE (xix (xOE (xv 2 rfl (.inl rfl))) (xOE (xi 1)))) (xOE (xtup xa_nil))) (xw_and1 (xt_cmp os_gt (xOE (xbf RE.back cs_len rfl (c.b 70 rfl) (by decide +kernel) (xa_consO (xOE (xv 3 rfl (.inl rfl))) xa_nil))) (xOE (xbf RE.back cs_len rfl (c.b 70 rfl) (by decide +kernel) (xa_consO (xOE (xix (xOE (xv 2 rfl (.inl rfl))) (xOE (xi 2)))) xa_nil))))))) (xss_cons xbad xss_nil) xss_nil) (xss_cons (xret (xbt RE.back cs_tuple rfl (c.b 76 rfl) (by decide +kernel) (xa_consO (xOE (xcall Γ c_shares_in h_shares_in hr rfl (c.g 39 rfl) (f_shares_in c).kp (b_shares_in (f_shares_in c)) (xa_cons (xv 2 rfl (.inl rfl)) (xa_cons (xv 3 rfl (.inl rfl)) xa_nil)))) xa_nil))) xss_nil))))
/-! shares_sum -/
def e_shares_sum (Γ : Gam) : Nf.S := (sSeq (sPar [(2, false), (3, false)] (aCons (eCall Γ c_sure_set (aCons (eVar 0) aNil)) (aCons (eCall Γ c_tupled (aCons (eVar 1) aNil)) aNil))) (sSeq (sIf (Nf.tOr (Nf.tNot (tTru (eUn (uIsa .tuple) (eVar 3)))) (Nf.tOr (tBl (eOp cGt (eB bLen (aCons (eVar 3) aNil)) (eOp oAdd (eC (.int 24)) (eC (.int 1))))) (Nf.tNot (tTru (eB bAll (aCons (eComp (iSeq (eVar 3)) (Nf.gName 4) [4] Nf.tYes (eCall Γ c_is_fraction (aCons (eVar 4) aNil))) aNil)))))) (sSeq sBad sNil) sNil) (sSeq (sIf (tTru (eB bAny (aCons (eComp (iSeq (eVar 3)) (Nf.gName 4) [4] Nf.tYes (eOr (eOp cGt (eB bAbs (aCons (eOp oIx (eVar 4) (eC (.int 0))) aNil)) (eC (.int 1000000000000000000000000000000))) (eOp cGt (eOp oIx (eVar 4) (eC (.int 1))) (eC (.int 1000000000000000000000000000000))))) aNil))) (sSeq sBad sNil) sNil) (sSeq (sIf (Nf.tAnd (tBl (eOp cEq (eOp oIx (eVar 2) (eC (.int 1))) (eTup aNil))) (tBl (eOp cGt (eB bLen (aCons (eCall Γ c_bare (aCons (eVar 3) aNil)) aNil)) (eB bLen (aCons (eOp oIx (eVar 2) (eC (.int 2))) aNil))))) (sSeq sBad sNil) sNil) (sSeq (sRet (eCall Γ c_sum_in (aCons (eVar 2) (aCons (eVar 3) aNil)))) sNil)))))
theorem sc_shares_sum : FnScope ["lot", "shares", "own", "row", "its"] ["lot", "shares"] (defScope (top 61)) := ⟨rfl, rfl, rfl, by decide +kernel, rfl, by decide +kernel, by decide +kernel⟩
theorem b_shares_sum {fd : FuncData} {ad : Addr} {kws : List (PySem.Str × V)} (F : FunD K "shares_sum" "shares_sum" (defArgs (top 61)) (defBody (top 61)) (defScope (top 61)) [] kws ad fd) : Binds K fd ["lot", "shares"] [] := F.bindsN fun _ _ _ _ _ _ us hl => match us, hl with | [_, _], _ => rfl
theorem f_shares_sum (c : Cn fa fn tu K mg) : FunD K "shares_sum" "shares_sum" (defArgs (top 61)) (defBody (top 61)) (defScope (top 61)) [] [] (He.ga K "shares_sum") (fdOf K (He.ga K "shares_sum")) := c.f 43 (d := d_shares_sum) rfl
theorem k_shares_sum (c : Cn fa fn tu K mg) (Γ : Gam) (h_tupled : FO P w K mg base k "tupled" ["value"] (Γ c_tupled)) (h_sure_set : FO P w K mg base k "sure_set" ["value"] (Γ c_sure_set)) (h_is_fraction : FO P w K mg base k "is_fraction" ["thing"] (Γ c_is_fraction)) (h_bare : FO P w K mg base k "bare" ["row"] (Γ c_bare)) (h_sum_in : FO P w K mg base k "sum_in" ["own", "shares"] (Γ c_sum_in)) : FO P w K mg base (k + 1) "shares_sum" ["lot", "shares"] (runDef 2 5 (e_shares_sum Γ)) := by
  refine fok (N := ["lot", "shares", "own", "row", "its"]) (fA K) (e_shares_sum Γ) (f_shares_sum c) sc_shares_sum (by decide) ?_
  intro cdv A outer s0 H E ta hr hf
  exact (xss_cons (xpar2 (b1 := false) (b2 := false) sc_shares_sum.nd (i := 2)  (j := 3) rfl rfl (by decide) rfl rfl (xm_e (xcall Γ c_sure_set h_sure_set hr rfl (c.g 19 rfl) (f_sure_set c).kp (b_sure_set (f_sure_set c)) (xa_cons (xv 0 rfl (.inl rfl)) xa_nil)) (xm_e (xcall Γ c_tupled h_tupled hr rfl (c.g 6 rfl) (f_tupled c).kp (b_tupled (f_tupled c)) (xa_cons (xv 1 rfl (.inl rfl)) xa_nil)) xm_nil)) rfl) (xss_cons (xif' (PW.pt (xw_or (xt_not (xt_tru (xOE (xisaT .tuple rfl rfl (c.b 73 rfl) rfl (c.b 76 rfl) (xOE (xv 3 rfl (.inl rfl))))))) (xw_or (xt_cmp os_gt (xOE (xbf RE.back cs_len rfl (c.b 70 rfl) (by decide +kernel) (xa_consO (xOE (xv 3 rfl (.inl rfl))) xa_nil))) (xOE (xopE os_add (xOE (xgi c 98 rfl rfl rfl)) (xOE (xi 1))))) (xw_or1 (xt_not (xt_tru (xOE (xbf RE.back cs_all rfl (c.b 71 rfl) (by decide +kernel) (xa_consO (xOE (xEN (xcomp [4] sc_shares_sum.nd (xiG (xi_seq (xv 3 rfl (.inl rfl)))) (blkOk_by (own := [("its", 4)]) (by kernel_rfl)) rfl (fun _ _ _ _ _ => (xg_name 4 sc_shares_sum.nd rfl (.inl rfl))) (fun _ _ _ _ _ => xts_nil) (fun _ _ _ _ _ => (xcall Γ c_is_fraction h_is_fraction hr rfl (c.g 12 rfl) (f_is_fraction c).kp (b_is_fraction (f_is_fraction c)) (xa_cons (xv 4 rfl (.inl rfl)) xa_nil)))))) xa_nil))))))))) (xss_cons xbad xss_nil) xss_nil) (xss_cons (xif' (xt_tru (xOE (xbf RE.back cs_any rfl (c.b 72 rfl) (by decide +kernel) (xa_consO (xOE (xEN (xcomp [4] sc_shares_sum.nd (xiG (xi_seq (xv 3 rfl (.inl rfl)))) (blkOk_by (own := [("its", 4)]) (by kernel_rfl)) rfl (fun _ _ _ _ _ => (xg_name 4 sc_shares_sum.nd rfl (.inl rfl))) (fun _ _ _ _ _ => xts_nil) (fun _ _ _ _ _ => (xor (xcmp os_gt (xOE (xbf RE.back cs_abs rfl (c.b 82 rfl) (by decide +kernel) (xa_consO (xOE (xix (xOE (xv 4 rfl (.inl rfl))) (xOE (xi 0)))) xa_nil))) (xOE (xgi c 95 rfl rfl rfl))) (xoneN (xcmp os_gt (xOE (xix (xOE (xv 4 rfl (.inl rfl))) (xOE (xi 1)))) (xOE (xgi c 95 rfl rfl rfl))))))))) xa_nil)))) (xss_cons xbad xss_nil) xss_nil) (xss_cons (xif' (PW.pt (xw_and (xt_cmp os_eq (xOE (xix (xOE (xv 2 rfl (.inl rfl))) (xOE (xi 1)))) (xOE (xtup xa_nil))) (xw_and1 (xt_cmp os_gt (xOE (xbf RE.back cs_len rfl (c.b 70 rfl) (by decide +kernel) (xa_consO (xOE (xcall Γ c_bare h_bare hr rfl (c.g 31 rfl) (f_bare c).kp (b_bare (f_bare c)) (xa_cons (xv 3 rfl (.inl rfl)) xa_nil))) xa_nil))) (xOE (xbf RE.back cs_len rfl (c.b 70 rfl) (by decide +kernel) (xa_consO (xOE (xix (xOE (xv 2 rfl (.inl rfl))) (xOE (xi 2)))) xa_nil))))))) (xss_cons xbad xss_nil) xss_nil) (xss_cons (xret (xcall Γ c_sum_in h_sum_in hr rfl (c.g 40 rfl) (f_sum_in c).kp (b_sum_in (f_sum_in c)) (xa_cons (xv 2 rfl (.inl rfl)) (xa_cons (xv 3 rfl (.inl rfl)) xa_nil)))) xss_nil)))))
/-! lowered -/
def e_lowered (Γ : Gam) : Nf.S := (sSeq (sIf (Nf.tOr (tBl (eOp cNe (eOp oIx (eVar 0) (eC (.int 1))) (eTup aNil))) (tBl (eOp cLe (eB bLen (aCons (eVar 1) aNil)) (eB bLen (aCons (eOp oIx (eVar 0) (eC (.int 2))) aNil))))) (sSeq (sRet (eVar 1)) sNil) sNil) (sSeq (sPar [(2, false), (3, false)] (aCons (eCall Γ c_roots_product (aCons (eOp oIx (eVar 0) (eC (.int 2))) aNil)) (aCons (eVar 1) aNil))) (sSeq (sWhile (tBl (eOp cGt (eB bLen (aCons (eVar 3) aNil)) (eB bLen (aCons (eOp oIx (eVar 0) (eC (.int 2))) aNil)))) (sSeq (sAsg (Nf.gName 4) (eOp oIx (eVar 3) (eUn uNeg (eC (.int 1))))) (sSeq (sAsg (Nf.gName 5) (eOp oAdd (eOp oMul (eTup (aCons (eC (.tup [.int 0, .int 1])) aNil)) (eOp oSub (eB bLen (aCons (eVar 3) aNil)) (eB bLen (aCons (eVar 2) aNil)))) (eCall Γ c_scaled_in (aCons (eVar 2) (aCons (eTup (aCons (eUn uNeg (eOp oIx (eVar 4) (eC (.int 0)))) (aCons (eOp oIx (eVar 4) (eC (.int 1))) aNil))) aNil))))) (sSeq (sAsg (Nf.gName 3) (eCall Γ c_plus_in (aCons (eVar 3) (aCons (eVar 5) aNil)))) sNil)))) (sSeq (sRet (eVar 3)) sNil))))
theorem sc_lowered : FnScope ["own", "poly", "zero", "left", "share", "step"] ["own", "poly"] (defScope (top 62)) := ⟨rfl, rfl, rfl, by decide +kernel, rfl, by decide +kernel, by decide +kernel⟩
theorem b_lowered {fd : FuncData} {ad : Addr} {kws : List (PySem.Str × V)} (F : FunD K "lowered" "lowered" (defArgs (top 62)) (defBody (top 62)) (defScope (top 62)) [] kws ad fd) : Binds K fd ["own", "poly"] [] := F.bindsN fun _ _ _ _ _ _ us hl => match us, hl with | [_, _], _ => rfl
theorem f_lowered (c : Cn fa fn tu K mg) : FunD K "lowered" "lowered" (defArgs (top 62)) (defBody (top 62)) (defScope (top 62)) [] [] (He.ga K "lowered") (fdOf K (He.ga K "lowered")) := c.f 44 (d := d_lowered) rfl
theorem k_lowered (c : Cn fa fn tu K mg) (Γ : Gam) (h_roots_product : FO P w K mg base k "roots_product" ["numbers"] (Γ c_roots_product)) (h_scaled_in : FO P w K mg base k "scaled_in" ["poly", "by"] (Γ c_scaled_in)) (h_plus_in : FO P w K mg base k "plus_in" ["one", "other"] (Γ c_plus_in)) : FO P w K mg base (k + 1) "lowered" ["own", "poly"] (runDef 2 6 (e_lowered Γ)) := by
  refine fok (N := ["own", "poly", "zero", "left", "share", "step"]) (fA K) (e_lowered Γ) (f_lowered c) sc_lowered (by decide) ?_
  intro cdv A outer s0 H E ta hr hf
  exact (xss_cons (xif' (PW.pt (xw_or (xt_cmp os_ne (xOE (xix (xOE (xv 0 rfl (.inl rfl))) (xOE (xi 1)))) (xOE (xtup xa_nil))) (xw_or1 (xt_cmp os_le (xOE (xbf RE.back cs_len rfl (c.b 70 rfl) (by decide +kernel) (xa_consO (xOE (xv 1 rfl (.inl rfl))) xa_nil))) (xOE (xbf RE.back cs_len rfl (c.b 70 rfl) (by decide +kernel) (xa_consO (xOE (xix (xOE (xv 0 rfl (.inl rfl))) (xOE (xi 2)))) xa_nil))))))) (xss_cons (xret (xv 1 rfl (.inl rfl))) xss_nil) xss_nil) (xss_cons (xpar2 (b1 := false) (b2 := false) sc_lowered.nd (i := 2)  (j := 3) rfl rfl (by decide) rfl rfl (xm_e (xcall Γ c_roots_product h_roots_product hr rfl (c.g 36 rfl) (f_roots_product c).kp (b_roots_product (f_roots_product c)) (xa_cons (xix (xOE (xv 0 rfl (.inl rfl))) (xOE (xi 2))) xa_nil)) (xm_e (xv 1 rfl (.inl rfl)) xm_nil)) rfl) (xss_cons (xwhile PassesOwn.never (xt_cmp os_gt (xOE (xbf RE.back cs_len rfl (c.b 70 rfl) (by decide +kernel) (xa_consO (xOE (xv 3 rfl (.inl rfl))) xa_nil))) (xOE (xbf RE.back cs_len rfl (c.b 70 rfl) (by decide +kernel) (xa_consO (xOE (xix (xOE (xv 0 rfl (.inl rfl))) (xOE (xi 2)))) xa_nil)))) (xss_cons (xset 4 sc_lowered.nd rfl (.inl rfl) (xix (xOE (xv 3 rfl (.inl rfl))) (xOE (xun us_neg (xOE (xi 1)))))) (xss_cons (xset 5 sc_lowered.nd rfl (.inl rfl) (xopE os_add (xOE (xopE os_mul (xOE (xtup (xa_cons (xgt (ns := [0, 1]) c 97 0 rfl rfl rfl rfl rfl) xa_nil))) (xOE (xopE os_sub (xOE (xbf RE.back cs_len rfl (c.b 70 rfl) (by decide +kernel) (xa_consO (xOE (xv 3 rfl (.inl rfl))) xa_nil))) (xOE (xbf RE.back cs_len rfl (c.b 70 rfl) (by decide +kernel) (xa_consO (xOE (xv 2 rfl (.inl rfl))) xa_nil))))))) (xOE (xcall Γ c_scaled_in h_scaled_in hr rfl (c.g 33 rfl) (f_scaled_in c).kp (b_scaled_in (f_scaled_in c)) (xa_cons (xv 2 rfl (.inl rfl)) (xa_cons (xtup (xa_cons (xun us_neg (xOE (xix (xOE (xv 4 rfl (.inl rfl))) (xOE (xi 0))))) (xa_cons (xix (xOE (xv 4 rfl (.inl rfl))) (xOE (xi 1))) xa_nil))) xa_nil)))))) (xss_cons (xset 3 sc_lowered.nd rfl (.inl rfl) (xcall Γ c_plus_in h_plus_in hr rfl (c.g 32 rfl) (f_plus_in c).kp (b_plus_in (f_plus_in c)) (xa_cons (xv 3 rfl (.inl rfl)) (xa_cons (xv 5 rfl (.inl rfl)) xa_nil)))) xss_nil)))) (xss_cons (xret (xv 3 rfl (.inl rfl))) xss_nil))))
/-! sure_values -/
def e_sure_values (Γ : Gam) : Nf.S := (sSeq (sAsg (Nf.gName 1) (eCall Γ c_tupled (aCons (eVar 0) aNil))) (sSeq (sIf (Nf.tOr (Nf.tNot (tTru (eUn (uIsa .tuple) (eVar 1)))) (Nf.tOr (Nf.tNot (tBl (eChain cLe cLe (eC (.int 1)) (eB bLen (aCons (eVar 1) aNil)) (eC (.int 30))))) (Nf.tNot (tTru (eB bAll (aCons (eComp (iSeq (eVar 1)) (Nf.gName 2) [2] Nf.tYes (eCall Γ c_is_fraction (aCons (eVar 2) aNil))) aNil)))))) (sSeq sBad sNil) sNil) (sSeq (sIf (tTru (eB bAny (aCons (eComp (iSeq (eVar 1)) (Nf.gName 2) [2] Nf.tYes (eOr (eOp cGt (eB bAbs (aCons (eOp oIx (eVar 2) (eC (.int 0))) aNil)) (eC (.int 1000000000000000000000000000000))) (eOp cGt (eOp oIx (eVar 2) (eC (.int 1))) (eC (.int 1000000000000000000000000000000))))) aNil))) (sSeq sBad sNil) sNil) (sSeq (sRet (eVar 1)) sNil))))
theorem sc_sure_values : FnScope ["value", "own", "its"] ["value"] (defScope (top 65)) := ⟨rfl, rfl, rfl, by decide +kernel, rfl, by decide +kernel, by decide +kernel⟩
theorem b_sure_values {fd : FuncData} {ad : Addr} {kws : List (PySem.Str × V)} (F : FunD K "sure_values" "sure_values" (defArgs (top 65)) (defBody (top 65)) (defScope (top 65)) [] kws ad fd) : Binds K fd ["value"] [] := F.bindsN fun _ _ _ _ _ _ us hl => match us, hl with | [_], _ => rfl
theorem f_sure_values (c : Cn fa fn tu K mg) : FunD K "sure_values" "sure_values" (defArgs (top 65)) (defBody (top 65)) (defScope (top 65)) [] [] (He.ga K "sure_values") (fdOf K (He.ga K "sure_values")) := c.f 45 (d := d_sure_values) rfl
theorem k_sure_values (c : Cn fa fn tu K mg) (Γ : Gam) (h_tupled : FO P w K mg base k "tupled" ["value"] (Γ c_tupled)) (h_is_fraction : FO P w K mg base k "is_fraction" ["thing"] (Γ c_is_fraction)) : FO P w K mg base (k + 1) "sure_values" ["value"] (runDef 1 3 (e_sure_values Γ)) := by
  refine fok (N := ["value", "own", "its"]) (fA K) (e_sure_values Γ) (f_sure_values c) sc_sure_values (by decide) ?_
  intro cdv A outer s0 H E ta hr hf
  exact (xss_cons (xset 1 sc_sure_values.nd rfl (.inl rfl) (xcall Γ c_tupled h_tupled hr rfl (c.g 6 rfl) (f_tupled c).kp (b_tupled (f_tupled c)) (xa_cons (xv 0 rfl (.inl rfl)) xa_nil))) (xss_cons (xif' (PW.pt (xw_or (xt_not (xt_tru (xOE (xisaT .tuple rfl rfl (c.b 73 rfl) rfl (c.b 76 rfl) (xOE (xv 1 rfl (.inl rfl))))))) (xw_or (xt_not (xt_chain os_le os_le (xOE (xi 1)) (xOE (xbf RE.back cs_len rfl (c.b 70 rfl) (by decide +kernel) (xa_consO (xOE (xv 1 rfl (.inl rfl))) xa_nil))) (xOE (xgi c 99 rfl rfl rfl)))) (xw_or1 (xt_not (xt_tru (xOE (xbf RE.back cs_all rfl (c.b 71 rfl) (by decide +kernel) (xa_consO (xOE (xEN (xcomp [2] sc_sure_values.nd (xiG (xi_seq (xv 1 rfl (.inl rfl)))) (blkOk_by (own := [("its", 2)]) (by kernel_rfl)) rfl (fun _ _ _ _ _ => (xg_name 2 sc_sure_values.nd rfl (.inl rfl))) (fun _ _ _ _ _ => xts_nil) (fun _ _ _ _ _ => (xcall Γ c_is_fraction h_is_fraction hr rfl (c.g 12 rfl) (f_is_fraction c).kp (b_is_fraction (f_is_fraction c)) (xa_cons (xv 2 rfl (.inl rfl)) xa_nil)))))) xa_nil))))))))) (xss_cons xbad xss_nil) xss_nil) (xss_cons (xif' (xt_tru (xOE (xbf RE.back cs_any rfl (c.b 72 rfl) (by decide +kernel) (xa_consO (xOE (xEN (xcomp [2] sc_sure_values.nd (xiG (xi_seq (xv 1 rfl (.inl rfl)))) (blkOk_by (own := [("its", 2)]) (by kernel_rfl)) rfl (fun _ _ _ _ _ => (xg_name 2 sc_sure_values.nd rfl (.inl rfl))) (fun _ _ _ _ _ => xts_nil) (fun _ _ _ _ _ => (xor (xcmp os_gt (xOE (xbf RE.back cs_abs rfl (c.b 82 rfl) (by decide +kernel) (xa_consO (xOE (xix (xOE (xv 2 rfl (.inl rfl))) (xOE (xi 0)))) xa_nil))) (xOE (xgi c 95 rfl rfl rfl))) (xoneN (xcmp os_gt (xOE (xix (xOE (xv 2 rfl (.inl rfl))) (xOE (xi 1)))) (xOE (xgi c 95 rfl rfl rfl))))))))) xa_nil)))) (xss_cons xbad xss_nil) xss_nil) (xss_cons (xret (xv 1 rfl (.inl rfl))) xss_nil))))
/-! gaps_of -/
def e_gaps_of (Γ : Gam) : Nf.S := (sSeq (sPar [(1, true), (2, false)] (aCons (eLst aNil) (aCons (eB bList (aCons (eVar 0) aNil)) aNil))) (sSeq (sWhile (tBl (eOp cNe (eVar 2) (eLst aNil))) (sSeq (sApp 1 (eOp oIx (eVar 2) (eC (.int 0)))) (sSeq (sAsg (Nf.gName 2) (eComp (iZip (aCons (eVar 2) (aCons (eSl (eVar 2) (pAt (eC (.int 1))) pNo) aNil))) (Nf.gTup [(Nf.gName 3), (Nf.gName 4)]) [3, 4] Nf.tYes (eCall Γ c_plus (aCons (eVar 4) (aCons (eTup (aCons (eUn uNeg (eOp oIx (eVar 3) (eC (.int 0)))) (aCons (eOp oIx (eVar 3) (eC (.int 1))) aNil))) aNil))))) sNil))) (sSeq (sRet (eVar 1)) sNil)))
theorem sc_gaps_of : FnScope ["row", "found", "left", "near", "far"] ["row"] (defScope (top 66)) := ⟨rfl, rfl, rfl, by decide +kernel, rfl, by decide +kernel, by decide +kernel⟩
theorem b_gaps_of {fd : FuncData} {ad : Addr} {kws : List (PySem.Str × V)} (F : FunD K "gaps_of" "gaps_of" (defArgs (top 66)) (defBody (top 66)) (defScope (top 66)) [] kws ad fd) : Binds K fd ["row"] [] := F.bindsN fun _ _ _ _ _ _ us hl => match us, hl with | [_], _ => rfl
theorem f_gaps_of (c : Cn fa fn tu K mg) : FunD K "gaps_of" "gaps_of" (defArgs (top 66)) (defBody (top 66)) (defScope (top 66)) [] [] (He.ga K "gaps_of") (fdOf K (He.ga K "gaps_of")) := c.f 46 (d := d_gaps_of) rfl
theorem k_gaps_of (c : Cn fa fn tu K mg) (Γ : Gam) (h_plus : FO P w K mg base k "plus" ["one", "other"] (Γ c_plus)) : FO P w K mg base (k + 1) "gaps_of" ["row"] (runDef 1 5 (e_gaps_of Γ)) := by
  refine fok (N := ["row", "found", "left", "near", "far"]) (fA K) (e_gaps_of Γ) (f_gaps_of c) sc_gaps_of (by decide) ?_
  intro cdv A outer s0 H E ta hr hf
  exact (xss_cons (xpar2 (b1 := true) (b2 := false) sc_gaps_of.nd (i := 1)  (j := 2) rfl rfl (by decide) rfl rfl (xm_n (xlst xa_nil) (xm_e (xEN (xbt RN.back cs_list rfl (c.b 77 rfl) (by decide +kernel) (xa_consO (xOE (xv 0 rfl (.inl rfl))) xa_nil))) xm_nil)) rfl) (xss_cons (xwhile PassesOwn.never (xt_cmp os_ne (xOE (xv 2 rfl (.inl rfl))) (xOE (xEN (xlst xa_nil)))) (xss_cons (xappend 1 rfl (.inl rfl) (xix (xOE (xv 2 rfl (.inl rfl))) (xOE (xi 0)))) (xss_cons (xsetLcF 2 [3, 4] sc_gaps_of.nd rfl rfl (sw_true rfl rfl rfl rfl) (xiG (xi_zip rfl (c.b 79 rfl) (xa_cons (xv 2 rfl (.inl rfl)) (xa_cons (xsl (xOE (xv 2 rfl (.inl rfl))) (xp_at (xOE (xi 1))) xp_no) xa_nil)))) (blkOk_by (own := [("near", 3), ("far", 4)]) (by kernel_rfl)) rfl (fun _ _ _ _ _ => (xg_tup (xgs_cons (xg_name 3 sc_gaps_of.nd rfl (.inl rfl)) (xgs_cons (xg_name 4 sc_gaps_of.nd rfl (.inl rfl)) xgs_nil)))) (fun _ _ _ _ _ => xts_nil) (fun _ _ _ _ _ => (xcall Γ c_plus h_plus hr rfl (c.g 10 rfl) (f_plus c).kp (b_plus (f_plus c)) (xa_cons (xv 4 rfl (.inl rfl)) (xa_cons (xtup (xa_cons (xun us_neg (xOE (xix (xOE (xv 3 rfl (.inl rfl))) (xOE (xi 0))))) (xa_cons (xix (xOE (xv 3 rfl (.inl rfl))) (xOE (xi 1))) xa_nil))) xa_nil))))) xss_nil))) (xss_cons (xret (xv 1 rfl (.inl rfl))) xss_nil)))
/-! chosen_in -/
def e_chosen_in (Γ : Gam) : Nf.S := (sSeq (sAsg (Nf.gName 1) (eC (.int 1))) (sSeq (sFor (iRange2 (aCons (eC (.int 2)) (aCons (eOp oAdd (eVar 0) (eC (.int 1))) aNil))) (Nf.gName 2) (sSeq (sAsg (Nf.gName 1) (eOp oMul (eVar 1) (eVar 2))) sNil)) (sSeq (sRet (eCall Γ c_scaled_in (aCons (eCall Γ c_roots_product (aCons (eLRg1 (eVar 0)) aNil)) (aCons (eTup (aCons (eC (.int 1)) (aCons (eVar 1) aNil))) aNil)))) sNil)))
theorem sc_chosen_in : FnScope ["number", "size", "own"] ["number"] (defScope (top 67)) := ⟨rfl, rfl, rfl, by decide +kernel, rfl, by decide +kernel, by decide +kernel⟩
theorem b_chosen_in {fd : FuncData} {ad : Addr} {kws : List (PySem.Str × V)} (F : FunD K "chosen_in" "chosen_in" (defArgs (top 67)) (defBody (top 67)) (defScope (top 67)) [] kws ad fd) : Binds K fd ["number"] [] := F.bindsN fun _ _ _ _ _ _ us hl => match us, hl with | [_], _ => rfl
theorem f_chosen_in (c : Cn fa fn tu K mg) : FunD K "chosen_in" "chosen_in" (defArgs (top 67)) (defBody (top 67)) (defScope (top 67)) [] [] (He.ga K "chosen_in") (fdOf K (He.ga K "chosen_in")) := c.f 47 (d := d_chosen_in) rfl
theorem k_chosen_in (c : Cn fa fn tu K mg) (Γ : Gam) (h_scaled_in : FO P w K mg base k "scaled_in" ["poly", "by"] (Γ c_scaled_in)) (h_roots_product : FO P w K mg base k "roots_product" ["numbers"] (Γ c_roots_product)) : FO P w K mg base (k + 1) "chosen_in" ["number"] (runDef 1 3 (e_chosen_in Γ)) := by
  refine fok (N := ["number", "size", "own"]) (fA K) (e_chosen_in Γ) (f_chosen_in c) sc_chosen_in (by decide) ?_
  intro cdv A outer s0 H E ta hr hf
  exact (xss_cons (xset 1 sc_chosen_in.nd rfl (.inl rfl) (xi 1)) (xss_cons (xfor PassesOwn.never (xi_range2 rfl (c.b 78 rfl) (xa_consO (xOE (xi 2)) (xa_consO (xOE (xopE os_add (xOE (xv 0 rfl (.inl rfl))) (xOE (xi 1)))) xa_nil))) (xg_name 2 sc_chosen_in.nd rfl (.inl rfl)) (xss_cons (xset 1 sc_chosen_in.nd rfl (.inl rfl) (xopE os_mul (xOE (xv 1 rfl (.inl rfl))) (xOE (xv 2 rfl (.inl rfl))))) xss_nil)) (xss_cons (xret (xcall Γ c_scaled_in h_scaled_in hr rfl (c.g 33 rfl) (f_scaled_in c).kp (b_scaled_in (f_scaled_in c)) (xa_cons (xcall Γ c_roots_product h_roots_product hr rfl (c.g 36 rfl) (f_roots_product c).kp (b_roots_product (f_roots_product c)) (xa_cons (xEN (xlrg1 rfl (c.b 77 rfl) rfl (c.b 78 rfl) (xOE (xv 0 rfl (.inl rfl))))) xa_nil)) (xa_cons (xtup (xa_cons (xi 1) (xa_cons (xv 1 rfl (.inl rfl)) xa_nil))) xa_nil)))) xss_nil)))
/-! by_gaps -/
def e_by_gaps (Γ : Gam) : Nf.S := (sSeq (sAsg (Nf.gName 1) (eTup aNil)) (sSeq (sFor (iEnum (aCons (eVar 0) aNil)) (Nf.gTup [(Nf.gName 2), (Nf.gName 3)]) (sSeq (sIf (tBl (eOp cNe (eVar 3) (eC (.tup [.int 0, .int 1])))) (sSeq (sAsg (Nf.gName 1) (eCall Γ c_plus_in (aCons (eVar 1) (aCons (eCall Γ c_scaled_in (aCons (eCall Γ c_chosen_in (aCons (eVar 2) aNil)) (aCons (eVar 3) aNil))) aNil)))) sNil) sNil) sNil)) (sSeq (sRet (eVar 1)) sNil)))
theorem sc_by_gaps : FnScope ["gaps", "found", "number", "own"] ["gaps"] (defScope (top 68)) := ⟨rfl, rfl, rfl, by decide +kernel, rfl, by decide +kernel, by decide +kernel⟩
theorem b_by_gaps {fd : FuncData} {ad : Addr} {kws : List (PySem.Str × V)} (F : FunD K "by_gaps" "by_gaps" (defArgs (top 68)) (defBody (top 68)) (defScope (top 68)) [] kws ad fd) : Binds K fd ["gaps"] [] := F.bindsN fun _ _ _ _ _ _ us hl => match us, hl with | [_], _ => rfl
theorem f_by_gaps (c : Cn fa fn tu K mg) : FunD K "by_gaps" "by_gaps" (defArgs (top 68)) (defBody (top 68)) (defScope (top 68)) [] [] (He.ga K "by_gaps") (fdOf K (He.ga K "by_gaps")) := c.f 48 (d := d_by_gaps) rfl
theorem k_by_gaps (c : Cn fa fn tu K mg) (Γ : Gam) (h_plus_in : FO P w K mg base k "plus_in" ["one", "other"] (Γ c_plus_in)) (h_scaled_in : FO P w K mg base k "scaled_in" ["poly", "by"] (Γ c_scaled_in)) (h_chosen_in : FO P w K mg base k "chosen_in" ["number"] (Γ c_chosen_in)) : FO P w K mg base (k + 1) "by_gaps" ["gaps"] (runDef 1 4 (e_by_gaps Γ)) := by
  refine fok (N := ["gaps", "found", "number", "own"]) (fA K) (e_by_gaps Γ) (f_by_gaps c) sc_by_gaps (by decide) ?_
  intro cdv A outer s0 H E ta hr hf
  exact (xss_cons (xset 1 sc_by_gaps.nd rfl (.inl rfl) (xtup xa_nil)) (xss_cons (xfor PassesOwn.never (xi_enum rfl (c.b 86 rfl) (xa_cons (xv 0 rfl (.inl rfl)) xa_nil)) (xg_tup (xgs_cons (xg_name 2 sc_by_gaps.nd rfl (.inl rfl)) (xgs_cons (xg_name 3 sc_by_gaps.nd rfl (.inl rfl)) xgs_nil))) (xss_cons (xif' (xt_cmp os_ne (xOE (xv 3 rfl (.inl rfl))) (xOE (xgt (ns := [0, 1]) c 97 0 rfl rfl rfl rfl rfl))) (xss_cons (xset 1 sc_by_gaps.nd rfl (.inl rfl) (xcall Γ c_plus_in h_plus_in hr rfl (c.g 32 rfl) (f_plus_in c).kp (b_plus_in (f_plus_in c)) (xa_cons (xv 1 rfl (.inl rfl)) (xa_cons (xcall Γ c_scaled_in h_scaled_in hr rfl (c.g 33 rfl) (f_scaled_in c).kp (b_scaled_in (f_scaled_in c)) (xa_cons (xcall Γ c_chosen_in h_chosen_in hr rfl (c.g 47 rfl) (f_chosen_in c).kp (b_chosen_in (f_chosen_in c)) (xa_cons (xv 2 rfl (.inl rfl)) xa_nil)) (xa_cons (xv 3 rfl (.inl rfl)) xa_nil))) xa_nil)))) xss_nil) xss_nil) xss_nil)) (xss_cons (xret (xv 1 rfl (.inl rfl))) xss_nil)))
/-! sum_of -/
def e_sum_of (Γ : Gam) : Nf.S := (sSeq (sAsg (Nf.gName 1) (eCall Γ c_gaps_of (aCons (eComp (iRange1 (aCons (eB bLen (aCons (eVar 0) aNil)) aNil)) (Nf.gName 2) [2] Nf.tYes (eCall Γ c_value_in (aCons (eVar 0) (aCons (eVar 2) aNil)))) aNil))) (sSeq (sRet (eCall Γ c_by_gaps (aCons (eOp oAdd (eLst (aCons (eC (.tup [.int 0, .int 1])) aNil)) (eVar 1)) aNil))) sNil))
theorem sc_sum_of : FnScope ["poly", "row", "own"] ["poly"] (defScope (top 69)) := ⟨rfl, rfl, rfl, by decide +kernel, rfl, by decide +kernel, by decide +kernel⟩
theorem b_sum_of {fd : FuncData} {ad : Addr} {kws : List (PySem.Str × V)} (F : FunD K "sum_of" "sum_of" (defArgs (top 69)) (defBody (top 69)) (defScope (top 69)) [] kws ad fd) : Binds K fd ["poly"] [] := F.bindsN fun _ _ _ _ _ _ us hl => match us, hl with | [_], _ => rfl
theorem f_sum_of (c : Cn fa fn tu K mg) : FunD K "sum_of" "sum_of" (defArgs (top 69)) (defBody (top 69)) (defScope (top 69)) [] [] (He.ga K "sum_of") (fdOf K (He.ga K "sum_of")) := c.f 49 (d := d_sum_of) rfl
theorem k_sum_of (c : Cn fa fn tu K mg) (Γ : Gam) (h_gaps_of : FO P w K mg base k "gaps_of" ["row"] (Γ c_gaps_of)) (h_value_in : FO P w K mg base k "value_in" ["poly", "number"] (Γ c_value_in)) (h_by_gaps : FO P w K mg base k "by_gaps" ["gaps"] (Γ c_by_gaps)) : FO P w K mg base (k + 1) "sum_of" ["poly"] (runDef 1 3 (e_sum_of Γ)) := by
  refine fok (N := ["poly", "row", "own"]) (fA K) (e_sum_of Γ) (f_sum_of c) sc_sum_of (by decide) ?_
  intro cdv A outer s0 H E ta hr hf
  exact (xss_cons (xset 1 sc_sum_of.nd rfl (.inl rfl) (xcall Γ c_gaps_of h_gaps_of hr rfl (c.g 46 rfl) (f_gaps_of c).kp (b_gaps_of (f_gaps_of c)) (xa_cons (xEN (xcomp [2] sc_sum_of.nd (xiG (xi_range1 rfl (c.b 78 rfl) (xa_consO (xOE (xbf RE.back cs_len rfl (c.b 70 rfl) (by decide +kernel) (xa_consO (xOE (xv 0 rfl (.inr (.inl rfl)))) xa_nil))) xa_nil))) (blkOk_by (own := [("own", 2)]) (by kernel_rfl)) rfl (fun _ _ _ _ _ => (xg_name 2 sc_sum_of.nd rfl (.inl rfl))) (fun _ _ _ _ _ => xts_nil) (fun _ _ _ _ _ => (xcall Γ c_value_in h_value_in hr rfl (c.g 35 rfl) (f_value_in c).kp (b_value_in (f_value_in c)) (xa_cons (xv 0 rfl (.inr (.inl rfl))) (xa_cons (xv 2 rfl (.inl rfl)) xa_nil)))))) xa_nil))) (xss_cons (xret (xcall Γ c_by_gaps h_by_gaps hr rfl (c.g 48 rfl) (f_by_gaps c).kp (b_by_gaps (f_by_gaps c)) (xa_cons (xopE os_add (xOE (xEN (xlst (xa_cons (xgt (ns := [0, 1]) c 97 0 rfl rfl rfl rfl rfl) xa_nil)))) (xOE (xv 1 rfl (.inl rfl)))) xa_nil))) xss_nil))
/-! row_gaps -/
def e_row_gaps (Γ : Gam) : Nf.S := (sSeq (sRet (eB bTuple (aCons (eCall Γ c_gaps_of (aCons (eCall Γ c_sure_values (aCons (eVar 0) aNil)) aNil)) aNil))) sNil)
theorem sc_row_gaps : FnScope ["values"] ["values"] (defScope (top 70)) := ⟨rfl, rfl, rfl, by decide +kernel, rfl, by decide +kernel, by decide +kernel⟩
theorem b_row_gaps {fd : FuncData} {ad : Addr} {kws : List (PySem.Str × V)} (F : FunD K "row_gaps" "row_gaps" (defArgs (top 70)) (defBody (top 70)) (defScope (top 70)) [] kws ad fd) : Binds K fd ["values"] [] := F.bindsN fun _ _ _ _ _ _ us hl => match us, hl with | [_], _ => rfl
theorem f_row_gaps (c : Cn fa fn tu K mg) : FunD K "row_gaps" "row_gaps" (defArgs (top 70)) (defBody (top 70)) (defScope (top 70)) [] [] (He.ga K "row_gaps") (fdOf K (He.ga K "row_gaps")) := c.f 50 (d := d_row_gaps) rfl
theorem k_row_gaps (c : Cn fa fn tu K mg) (Γ : Gam) (h_gaps_of : FO P w K mg base k "gaps_of" ["row"] (Γ c_gaps_of)) (h_sure_values : FO P w K mg base k "sure_values" ["value"] (Γ c_sure_values)) : FO P w K mg base (k + 1) "row_gaps" ["values"] (runDef 1 1 (e_row_gaps Γ)) := by
  refine fok (N := ["values"]) (fA K) (e_row_gaps Γ) (f_row_gaps c) sc_row_gaps (by decide) ?_
  intro cdv A outer s0 H E ta hr hf
  exact (xss_cons (xret (xbt RE.back cs_tuple rfl (c.b 76 rfl) (by decide +kernel) (xa_consO (xOE (xcall Γ c_gaps_of h_gaps_of hr rfl (c.g 46 rfl) (f_gaps_of c).kp (b_gaps_of (f_gaps_of c)) (xa_cons (xcall Γ c_sure_values h_sure_values hr rfl (c.g 45 rfl) (f_sure_values c).kp (b_sure_values (f_sure_values c)) (xa_cons (xv 0 rfl (.inl rfl)) xa_nil)) xa_nil))) xa_nil))) xss_nil)
/-! row_poly -/
def e_row_poly (Γ : Gam) : Nf.S := (sSeq (sRet (eCall Γ c_by_gaps (aCons (eCall Γ c_gaps_of (aCons (eCall Γ c_sure_values (aCons (eVar 0) aNil)) aNil)) aNil))) sNil)
theorem sc_row_poly : FnScope ["values"] ["values"] (defScope (top 71)) := ⟨rfl, rfl, rfl, by decide +kernel, rfl, by decide +kernel, by decide +kernel⟩
theorem b_row_poly {fd : FuncData} {ad : Addr} {kws : List (PySem.Str × V)} (F : FunD K "row_poly" "row_poly" (defArgs (top 71)) (defBody (top 71)) (defScope (top 71)) [] kws ad fd) : Binds K fd ["values"] [] := F.bindsN fun _ _ _ _ _ _ us hl => match us, hl with | [_], _ => rfl
theorem f_row_poly (c : Cn fa fn tu K mg) : FunD K "row_poly" "row_poly" (defArgs (top 71)) (defBody (top 71)) (defScope (top 71)) [] [] (He.ga K "row_poly") (fdOf K (He.ga K "row_poly")) := c.f 51 (d := d_row_poly) rfl
theorem k_row_poly (c : Cn fa fn tu K mg) (Γ : Gam) (h_by_gaps : FO P w K mg base k "by_gaps" ["gaps"] (Γ c_by_gaps)) (h_gaps_of : FO P w K mg base k "gaps_of" ["row"] (Γ c_gaps_of)) (h_sure_values : FO P w K mg base k "sure_values" ["value"] (Γ c_sure_values)) : FO P w K mg base (k + 1) "row_poly" ["values"] (runDef 1 1 (e_row_poly Γ)) := by
  refine fok (N := ["values"]) (fA K) (e_row_poly Γ) (f_row_poly c) sc_row_poly (by decide) ?_
  intro cdv A outer s0 H E ta hr hf
  exact (xss_cons (xret (xcall Γ c_by_gaps h_by_gaps hr rfl (c.g 48 rfl) (f_by_gaps c).kp (b_by_gaps (f_by_gaps c)) (xa_cons (xcall Γ c_gaps_of h_gaps_of hr rfl (c.g 46 rfl) (f_gaps_of c).kp (b_gaps_of (f_gaps_of c)) (xa_cons (xcall Γ c_sure_values h_sure_values hr rfl (c.g 45 rfl) (f_sure_values c).kp (b_sure_values (f_sure_values c)) (xa_cons (xv 0 rfl (.inl rfl)) xa_nil)) xa_nil)) xa_nil))) xss_nil)
/-! poly_row -/
def e_poly_row (Γ : Gam) : Nf.S := (sSeq (sAsg (Nf.gName 3) (eCall Γ c_sure_poly (aCons (eVar 0) aNil))) (sSeq (sAsg (Nf.gTup [(Nf.gName 4), (Nf.gName 5)]) (eTup (aCons (eCall Γ c_sure_within (aCons (eVar 1) (aCons (eUn uNeg (eC (.int 1000000000000))) (aCons (eC (.int 1000000000000)) aNil)))) (aCons (eCall Γ c_sure_within (aCons (eVar 2) (aCons (eC (.int 0)) (aCons (eC (.int 30)) aNil)))) aNil)))) (sSeq (sRet (eB bTuple (aCons (eComp (iRange1 (aCons (eVar 5) aNil)) (Nf.gName 6) [6] Nf.tYes (eCall Γ c_value_in (aCons (eVar 3) (aCons (eOp oAdd (eVar 4) (eVar 6)) aNil)))) aNil))) sNil)))
theorem sc_poly_row : FnScope ["poly", "first", "many", "own", "start", "long", "its"] ["poly", "first", "many"] (defScope (top 72)) := ⟨rfl, rfl, rfl, by decide +kernel, rfl, by decide +kernel, by decide +kernel⟩
theorem b_poly_row {fd : FuncData} {ad : Addr} {kws : List (PySem.Str × V)} (F : FunD K "poly_row" "poly_row" (defArgs (top 72)) (defBody (top 72)) (defScope (top 72)) [] kws ad fd) : Binds K fd ["poly", "first", "many"] [] := F.bindsN fun _ _ _ _ _ _ us hl => match us, hl with | [_, _, _], _ => rfl
theorem f_poly_row (c : Cn fa fn tu K mg) : FunD K "poly_row" "poly_row" (defArgs (top 72)) (defBody (top 72)) (defScope (top 72)) [] [] (He.ga K "poly_row") (fdOf K (He.ga K "poly_row")) := c.f 52 (d := d_poly_row) rfl
theorem k_poly_row (c : Cn fa fn tu K mg) (Γ : Gam) (h_sure_poly : FO P w K mg base k "sure_poly" ["value"] (Γ c_sure_poly)) (h_sure_within : FO P w K mg base k "sure_within" ["thing", "least", "most"] (Γ c_sure_within)) (h_value_in : FO P w K mg base k "value_in" ["poly", "number"] (Γ c_value_in)) : FO P w K mg base (k + 1) "poly_row" ["poly", "first", "many"] (runDef 3 7 (e_poly_row Γ)) := by
  refine fok (N := ["poly", "first", "many", "own", "start", "long", "its"]) (fA K) (e_poly_row Γ) (f_poly_row c) sc_poly_row (by decide) ?_
  intro cdv A outer s0 H E ta hr hf
  exact (xss_cons (xset 3 sc_poly_row.nd rfl (.inr rfl) (xcall Γ c_sure_poly h_sure_poly hr rfl (c.g 30 rfl) (f_sure_poly c).kp (b_sure_poly (f_sure_poly c)) (xa_cons (xv 0 rfl (.inl rfl)) xa_nil))) (xss_cons (xasg (xtup (xa_cons (xcall Γ c_sure_within h_sure_within hr rfl (c.g 2 rfl) (f_sure_within c).kp (b_sure_within (f_sure_within c)) (xa_cons (xv 1 rfl (.inl rfl)) (xa_cons (xun us_neg (xOE (xgi c 96 rfl rfl rfl))) (xa_cons (xgi c 96 rfl rfl rfl) xa_nil)))) (xa_cons (xcall Γ c_sure_within h_sure_within hr rfl (c.g 2 rfl) (f_sure_within c).kp (b_sure_within (f_sure_within c)) (xa_cons (xv 2 rfl (.inl rfl)) (xa_cons (xi 0) (xa_cons (xgi c 99 rfl rfl rfl) xa_nil)))) xa_nil))) (xg_tup (xgs_cons (xg_name 4 sc_poly_row.nd rfl (.inr rfl)) (xgs_cons (xg_name 5 sc_poly_row.nd rfl (.inl rfl)) xgs_nil)))) (xss_cons (xret (xbt RE.back cs_tuple rfl (c.b 76 rfl) (by decide +kernel) (xa_consO (xOE (xEN (xcomp [6] sc_poly_row.nd (xiG (xi_range1 rfl (c.b 78 rfl) (xa_consO (xOE (xv 5 rfl (.inl rfl))) xa_nil))) (blkOk_by (own := [("its", 6)]) (by kernel_rfl)) rfl (fun _ _ _ _ _ => (xg_name 6 sc_poly_row.nd rfl (.inl rfl))) (fun _ _ _ _ _ => xts_nil) (fun _ _ _ _ _ => (xcall Γ c_value_in h_value_in hr rfl (c.g 35 rfl) (f_value_in c).kp (b_value_in (f_value_in c)) (xa_cons (xv 3 rfl (.inr (.inl rfl))) (xa_cons (xopE os_add (xOE (xv 4 rfl (.inr (.inl rfl)))) (xOE (xv 6 rfl (.inl rfl)))) xa_nil))))))) xa_nil))) xss_nil)))
/-! sum_poly -/
def e_sum_poly (Γ : Gam) : Nf.S := (sSeq (sAsg (Nf.gName 1) (eCall Γ c_sure_poly (aCons (eVar 0) aNil))) (sSeq (sIf (tBl (eOp cGt (eB bLen (aCons (eVar 1) aNil)) (eC (.int 40)))) (sSeq sBad sNil) sNil) (sSeq (sRet (eCall Γ c_sum_of (aCons (eVar 1) aNil))) sNil)))
theorem sc_sum_poly : FnScope ["poly", "own"] ["poly"] (defScope (top 73)) := ⟨rfl, rfl, rfl, by decide +kernel, rfl, by decide +kernel, by decide +kernel⟩
theorem b_sum_poly {fd : FuncData} {ad : Addr} {kws : List (PySem.Str × V)} (F : FunD K "sum_poly" "sum_poly" (defArgs (top 73)) (defBody (top 73)) (defScope (top 73)) [] kws ad fd) : Binds K fd ["poly"] [] := F.bindsN fun _ _ _ _ _ _ us hl => match us, hl with | [_], _ => rfl
theorem f_sum_poly (c : Cn fa fn tu K mg) : FunD K "sum_poly" "sum_poly" (defArgs (top 73)) (defBody (top 73)) (defScope (top 73)) [] [] (He.ga K "sum_poly") (fdOf K (He.ga K "sum_poly")) := c.f 53 (d := d_sum_poly) rfl
theorem k_sum_poly (c : Cn fa fn tu K mg) (Γ : Gam) (h_sure_poly : FO P w K mg base k "sure_poly" ["value"] (Γ c_sure_poly)) (h_sum_of : FO P w K mg base k "sum_of" ["poly"] (Γ c_sum_of)) : FO P w K mg base (k + 1) "sum_poly" ["poly"] (runDef 1 2 (e_sum_poly Γ)) := by
  refine fok (N := ["poly", "own"]) (fA K) (e_sum_poly Γ) (f_sum_poly c) sc_sum_poly (by decide) ?_
  intro cdv A outer s0 H E ta hr hf
  exact (xss_cons (xset 1 sc_sum_poly.nd rfl (.inl rfl) (xcall Γ c_sure_poly h_sure_poly hr rfl (c.g 30 rfl) (f_sure_poly c).kp (b_sure_poly (f_sure_poly c)) (xa_cons (xv 0 rfl (.inl rfl)) xa_nil))) (xss_cons (xif' (xt_cmp os_gt (xOE (xbf RE.back cs_len rfl (c.b 70 rfl) (by decide +kernel) (xa_consO (xOE (xv 1 rfl (.inl rfl))) xa_nil))) (xOE (xgi c 94 rfl rfl rfl))) (xss_cons xbad xss_nil) xss_nil) (xss_cons (xret (xcall Γ c_sum_of h_sum_of hr rfl (c.g 49 rfl) (f_sum_of c).kp (b_sum_of (f_sum_of c)) (xa_cons (xv 1 rfl (.inl rfl)) xa_nil))) xss_nil)))
/-! stretch_sum -/
def e_stretch_sum (Γ : Gam) : Nf.S := (sSeq (sAsg (Nf.gName 3) (eCall Γ c_sure_poly (aCons (eVar 0) aNil))) (sSeq (sPar [(4, false), (5, false)] (aCons (eCall Γ c_sure_within (aCons (eVar 1) (aCons (eUn uNeg (eC (.int 1000000000000))) (aCons (eC (.int 1000000000000)) aNil)))) (aCons (eCall Γ c_sure_within (aCons (eVar 2) (aCons (eUn uNeg (eC (.int 1000000000000))) (aCons (eC (.int 1000000000000)) aNil)))) aNil))) (sSeq (sIf (tBl (eOp cGt (eB bLen (aCons (eVar 3) aNil)) (eC (.int 40)))) (sSeq sBad sNil) sNil) (sSeq (sIf (tBl (eOp cLt (eVar 5) (eVar 4))) (sSeq sBad sNil) sNil) (sSeq (sAsg (Nf.gName 6) (eCall Γ c_sum_of (aCons (eVar 3) aNil))) (sSeq (sPar [(7, false), (8, false)] (aCons (eCall Γ c_value_in (aCons (eVar 6) (aCons (eOp oAdd (eVar 5) (eC (.int 1))) aNil))) (aCons (eCall Γ c_value_in (aCons (eVar 6) (aCons (eVar 4) aNil))) aNil))) (sSeq (sRet (eCall Γ c_plus (aCons (eVar 7) (aCons (eTup (aCons (eUn uNeg (eOp oIx (eVar 8) (eC (.int 0)))) (aCons (eOp oIx (eVar 8) (eC (.int 1))) aNil))) aNil)))) sNil)))))))
theorem sc_stretch_sum : FnScope ["poly", "first", "last", "own", "low", "high", "total", "near", "far"] ["poly", "first", "last"] (defScope (top 74)) := ⟨rfl, rfl, rfl, by decide +kernel, rfl, by decide +kernel, by decide +kernel⟩
theorem b_stretch_sum {fd : FuncData} {ad : Addr} {kws : List (PySem.Str × V)} (F : FunD K "stretch_sum" "stretch_sum" (defArgs (top 74)) (defBody (top 74)) (defScope (top 74)) [] kws ad fd) : Binds K fd ["poly", "first", "last"] [] := F.bindsN fun _ _ _ _ _ _ us hl => match us, hl with | [_, _, _], _ => rfl
theorem f_stretch_sum (c : Cn fa fn tu K mg) : FunD K "stretch_sum" "stretch_sum" (defArgs (top 74)) (defBody (top 74)) (defScope (top 74)) [] [] (He.ga K "stretch_sum") (fdOf K (He.ga K "stretch_sum")) := c.f 54 (d := d_stretch_sum) rfl
theorem k_stretch_sum (c : Cn fa fn tu K mg) (Γ : Gam) (h_sure_poly : FO P w K mg base k "sure_poly" ["value"] (Γ c_sure_poly)) (h_sure_within : FO P w K mg base k "sure_within" ["thing", "least", "most"] (Γ c_sure_within)) (h_sum_of : FO P w K mg base k "sum_of" ["poly"] (Γ c_sum_of)) (h_value_in : FO P w K mg base k "value_in" ["poly", "number"] (Γ c_value_in)) (h_plus : FO P w K mg base k "plus" ["one", "other"] (Γ c_plus)) : FO P w K mg base (k + 1) "stretch_sum" ["poly", "first", "last"] (runDef 3 9 (e_stretch_sum Γ)) := by
  refine fok (N := ["poly", "first", "last", "own", "low", "high", "total", "near", "far"]) (fA K) (e_stretch_sum Γ) (f_stretch_sum c) sc_stretch_sum (by decide) ?_
  intro cdv A outer s0 H E ta hr hf
  exact (xss_cons (xset 3 sc_stretch_sum.nd rfl (.inl rfl) (xcall Γ c_sure_poly h_sure_poly hr rfl (c.g 30 rfl) (f_sure_poly c).kp (b_sure_poly (f_sure_poly c)) (xa_cons (xv 0 rfl (.inl rfl)) xa_nil))) (xss_cons (xpar2 (b1 := false) (b2 := false) sc_stretch_sum.nd (i := 4)  (j := 5) rfl rfl (by decide) rfl rfl (xm_e (xcall Γ c_sure_within h_sure_within hr rfl (c.g 2 rfl) (f_sure_within c).kp (b_sure_within (f_sure_within c)) (xa_cons (xv 1 rfl (.inl rfl)) (xa_cons (xun us_neg (xOE (xgi c 96 rfl rfl rfl))) (xa_cons (xgi c 96 rfl rfl rfl) xa_nil)))) (xm_e (xcall Γ c_sure_within h_sure_within hr rfl (c.g 2 rfl) (f_sure_within c).kp (b_sure_within (f_sure_within c)) (xa_cons (xv 2 rfl (.inl rfl)) (xa_cons (xun us_neg (xOE (xgi c 96 rfl rfl rfl))) (xa_cons (xgi c 96 rfl rfl rfl) xa_nil)))) xm_nil)) rfl) (xss_cons (xif' (xt_cmp os_gt (xOE (xbf RE.back cs_len rfl (c.b 70 rfl) (by decide +kernel) (xa_consO (xOE (xv 3 rfl (.inl rfl))) xa_nil))) (xOE (xgi c 94 rfl rfl rfl))) (xss_cons xbad xss_nil) xss_nil) (xss_cons (xif' (xt_cmp os_lt (xOE (xv 5 rfl (.inl rfl))) (xOE (xv 4 rfl (.inl rfl)))) (xss_cons xbad xss_nil) xss_nil) (xss_cons (xset 6 sc_stretch_sum.nd rfl (.inl rfl) (xcall Γ c_sum_of h_sum_of hr rfl (c.g 49 rfl) (f_sum_of c).kp (b_sum_of (f_sum_of c)) (xa_cons (xv 3 rfl (.inl rfl)) xa_nil))) (xss_cons (xpar2 (b1 := false) (b2 := false) sc_stretch_sum.nd (i := 7)  (j := 8) rfl rfl (by decide) rfl rfl (xm_e (xcall Γ c_value_in h_value_in hr rfl (c.g 35 rfl) (f_value_in c).kp (b_value_in (f_value_in c)) (xa_cons (xv 6 rfl (.inl rfl)) (xa_cons (xopE os_add (xOE (xv 5 rfl (.inl rfl))) (xOE (xi 1))) xa_nil))) (xm_e (xcall Γ c_value_in h_value_in hr rfl (c.g 35 rfl) (f_value_in c).kp (b_value_in (f_value_in c)) (xa_cons (xv 6 rfl (.inl rfl)) (xa_cons (xv 4 rfl (.inl rfl)) xa_nil))) xm_nil)) rfl) (xss_cons (xret (xcall Γ c_plus h_plus hr rfl (c.g 10 rfl) (f_plus c).kp (b_plus (f_plus c)) (xa_cons (xv 7 rfl (.inl rfl)) (xa_cons (xtup (xa_cons (xun us_neg (xOE (xix (xOE (xv 8 rfl (.inl rfl))) (xOE (xi 0))))) (xa_cons (xix (xOE (xv 8 rfl (.inl rfl))) (xOE (xi 1))) xa_nil))) xa_nil)))) xss_nil)))))))
/-! whole_shares_in -/
def e_whole_shares_in (Γ : Gam) : Nf.S := (sSeq (sAsg (Nf.gName 2) (eCall Γ c_shares_in (aCons (eVar 0) (aCons (eCall Γ c_lowered (aCons (eVar 0) (aCons (eVar 1) aNil))) aNil)))) (sSeq (sRet (eIf (tTru (eB bAll (aCons (eComp (iSeq (eVar 2)) (Nf.gName 3) [3] Nf.tYes (eOp cEq (eOp oIx (eVar 3) (eC (.int 1))) (eC (.int 1)))) aNil))) (eComp (iSeq (eVar 2)) (Nf.gName 3) [3] Nf.tYes (eOp oIx (eVar 3) (eC (.int 0)))) (eC .non))) sNil))
theorem sc_whole_shares_in : FnScope ["own", "poly", "found", "its"] ["own", "poly"] (defScope (top 76)) := ⟨rfl, rfl, rfl, by decide +kernel, rfl, by decide +kernel, by decide +kernel⟩
theorem b_whole_shares_in {fd : FuncData} {ad : Addr} {kws : List (PySem.Str × V)} (F : FunD K "whole_shares_in" "whole_shares_in" (defArgs (top 76)) (defBody (top 76)) (defScope (top 76)) [] kws ad fd) : Binds K fd ["own", "poly"] [] := F.bindsN fun _ _ _ _ _ _ us hl => match us, hl with | [_, _], _ => rfl
theorem f_whole_shares_in (c : Cn fa fn tu K mg) : FunD K "whole_shares_in" "whole_shares_in" (defArgs (top 76)) (defBody (top 76)) (defScope (top 76)) [] [] (He.ga K "whole_shares_in") (fdOf K (He.ga K "whole_shares_in")) := c.f 55 (d := d_whole_shares_in) rfl
theorem k_whole_shares_in (c : Cn fa fn tu K mg) (Γ : Gam) (h_shares_in : FO P w K mg base k "shares_in" ["own", "poly"] (Γ c_shares_in)) (h_lowered : FO P w K mg base k "lowered" ["own", "poly"] (Γ c_lowered)) : FO P w K mg base (k + 1) "whole_shares_in" ["own", "poly"] (runDef 2 4 (e_whole_shares_in Γ)) := by
  refine fok (N := ["own", "poly", "found", "its"]) (fA K) (e_whole_shares_in Γ) (f_whole_shares_in c) sc_whole_shares_in (by decide) ?_
  intro cdv A outer s0 H E ta hr hf
  exact (xss_cons (xset 2 sc_whole_shares_in.nd rfl (.inl rfl) (xcall Γ c_shares_in h_shares_in hr rfl (c.g 39 rfl) (f_shares_in c).kp (b_shares_in (f_shares_in c)) (xa_cons (xv 0 rfl (.inl rfl)) (xa_cons (xcall Γ c_lowered h_lowered hr rfl (c.g 44 rfl) (f_lowered c).kp (b_lowered (f_lowered c)) (xa_cons (xv 0 rfl (.inl rfl)) (xa_cons (xv 1 rfl (.inl rfl)) xa_nil))) xa_nil)))) (xss_cons (xret (xif (xt_tru (xOE (xbf RE.back cs_all rfl (c.b 71 rfl) (by decide +kernel) (xa_consO (xOE (xEN (xcomp [3] sc_whole_shares_in.nd (xiG (xi_seq (xv 2 rfl (.inl rfl)))) (blkOk_by (own := [("its", 3)]) (by kernel_rfl)) rfl (fun _ _ _ _ _ => (xg_name 3 sc_whole_shares_in.nd rfl (.inl rfl))) (fun _ _ _ _ _ => xts_nil) (fun _ _ _ _ _ => (xcmp os_eq (xOE (xix (xOE (xv 3 rfl (.inl rfl))) (xOE (xi 1)))) (xOE (xi 1))))))) xa_nil)))) (xEN (xcomp [3] sc_whole_shares_in.nd (xiG (xi_seq (xv 2 rfl (.inl rfl)))) (blkOk_by (own := [("its", 3)]) (by kernel_rfl)) rfl (fun _ _ _ _ _ => (xg_name 3 sc_whole_shares_in.nd rfl (.inl rfl))) (fun _ _ _ _ _ => xts_nil) (fun _ _ _ _ _ => (xix (xOE (xv 3 rfl (.inl rfl))) (xOE (xi 0)))))) xn)) xss_nil))
/-! whole_shares -/
def e_whole_shares (Γ : Gam) : Nf.S := (sSeq (sAsg (Nf.gName 2) (eCall Γ c_sure_set (aCons (eVar 0) aNil))) (sSeq (sAsg (Nf.gName 3) (eCall Γ c_whole_shares_in (aCons (eVar 2) (aCons (eCall Γ c_sure_low (aCons (eVar 1) aNil)) aNil)))) (sSeq (sIf (tBl (eOp oIsN (eVar 3) (eC .non))) (sSeq sBad sNil) sNil) (sSeq (sRet (eB bTuple (aCons (eVar 3) aNil))) sNil))))
theorem sc_whole_shares : FnScope ["lot", "poly", "own", "found"] ["lot", "poly"] (defScope (top 77)) := ⟨rfl, rfl, rfl, by decide +kernel, rfl, by decide +kernel, by decide +kernel⟩
theorem b_whole_shares {fd : FuncData} {ad : Addr} {kws : List (PySem.Str × V)} (F : FunD K "whole_shares" "whole_shares" (defArgs (top 77)) (defBody (top 77)) (defScope (top 77)) [] kws ad fd) : Binds K fd ["lot", "poly"] [] := F.bindsN fun _ _ _ _ _ _ us hl => match us, hl with | [_, _], _ => rfl
theorem f_whole_shares (c : Cn fa fn tu K mg) : FunD K "whole_shares" "whole_shares" (defArgs (top 77)) (defBody (top 77)) (defScope (top 77)) [] [] (He.ga K "whole_shares") (fdOf K (He.ga K "whole_shares")) := c.f 56 (d := d_whole_shares) rfl
theorem k_whole_shares (c : Cn fa fn tu K mg) (Γ : Gam) (h_sure_set : FO P w K mg base k "sure_set" ["value"] (Γ c_sure_set)) (h_whole_shares_in : FO P w K mg base k "whole_shares_in" ["own", "poly"] (Γ c_whole_shares_in)) (h_sure_low : FO P w K mg base k "sure_low" ["poly"] (Γ c_sure_low)) : FO P w K mg base (k + 1) "whole_shares" ["lot", "poly"] (runDef 2 4 (e_whole_shares Γ)) := by
  refine fok (N := ["lot", "poly", "own", "found"]) (fA K) (e_whole_shares Γ) (f_whole_shares c) sc_whole_shares (by decide) ?_
  intro cdv A outer s0 H E ta hr hf
  exact (xss_cons (xset 2 sc_whole_shares.nd rfl (.inl rfl) (xcall Γ c_sure_set h_sure_set hr rfl (c.g 19 rfl) (f_sure_set c).kp (b_sure_set (f_sure_set c)) (xa_cons (xv 0 rfl (.inl rfl)) xa_nil))) (xss_cons (xset 3 sc_whole_shares.nd rfl (.inl rfl) (xcall Γ c_whole_shares_in h_whole_shares_in hr rfl (c.g 55 rfl) (f_whole_shares_in c).kp (b_whole_shares_in (f_whole_shares_in c)) (xa_cons (xv 2 rfl (.inl rfl)) (xa_cons (xcall Γ c_sure_low h_sure_low hr rfl (c.g 41 rfl) (f_sure_low c).kp (b_sure_low (f_sure_low c)) (xa_cons (xv 1 rfl (.inl rfl)) xa_nil)) xa_nil)))) (xss_cons (xif' (xt_cmp os_isN (xOE (xv 3 rfl (.inl rfl))) (xOE xn)) (xss_cons xbad xss_nil) xss_nil) (xss_cons (xret (xbt RE.back cs_tuple rfl (c.b 76 rfl) (by decide +kernel) (xa_consO (xOE (xv 3 rfl (.inl rfl))) xa_nil))) xss_nil))))
/-! _law_box -/
def e__law_box (Γ : Gam) : Nf.S := (sSeq (sAsg (Nf.gName 2) (eIf (tBl (eOp cLt (eVar 1) (eB bLen (aCons (eVar 0) aNil)))) (eOp oIx (eVar 0) (eVar 1)) (eC (.int 0)))) (sSeq (sRet (eLst (aCons (eOp oMul (eB bAbs (aCons (eVar 2) aNil)) (eB bInt (aCons (eOp cGe (eB bAbs (aCons (eVar 2) aNil)) (eOp oPow (eC (.int 10)) (eC (.int 18)))) aNil))) (aCons (eOp oAdd (eOp oAdd (eOp oMod (eB bInt (aCons (eVar 2) aNil)) (eC (.int 2305843009213693951))) (eOp oMul (eC (.int 39373)) (eVar 1))) (eC (.int 25155048))) (aCons (eC (.int 0)) aNil))))) sNil))
theorem sc__law_box : FnScope ["script", "k", "bit_so"] ["script", "k"] (defScope (top 79)) := ⟨rfl, rfl, rfl, by decide +kernel, rfl, by decide +kernel, by decide +kernel⟩
theorem b__law_box {fd : FuncData} {ad : Addr} {kws : List (PySem.Str × V)} (F : FunD K "_law_box" "_law_box" (defArgs (top 79)) (defBody (top 79)) (defScope (top 79)) [] kws ad fd) : Binds K fd ["script", "k"] [] := F.bindsN fun _ _ _ _ _ _ us hl => match us, hl with | [_, _], _ => rfl
theorem f__law_box (c : Cn fa fn tu K mg) : FunD K "_law_box" "_law_box" (defArgs (top 79)) (defBody (top 79)) (defScope (top 79)) [] [] (He.ga K "_law_box") (fdOf K (He.ga K "_law_box")) := c.f 57 (d := d__law_box) rfl
theorem k__law_box (c : Cn fa fn tu K mg) (Γ : Gam) : FO P w K mg base (k + 1) "_law_box" ["script", "k"] (runDef 2 3 (e__law_box Γ)) := by
  refine fok (N := ["script", "k", "bit_so"]) (fA K) (e__law_box Γ) (f__law_box c) sc__law_box (by decide) ?_
  intro cdv A outer s0 H E ta hr hf
  exact (xss_cons (xset 2 sc__law_box.nd rfl (.inl rfl) (xif (xt_cmp os_lt (xOE (xv 1 rfl (.inl rfl))) (xOE (xbf RE.back cs_len rfl (c.b 70 rfl) (by decide +kernel) (xa_consO (xOE (xv 0 rfl (.inl rfl))) xa_nil)))) (xix (xOE (xv 0 rfl (.inl rfl))) (xOE (xv 1 rfl (.inl rfl)))) (xi 0))) (xss_cons (xret (xEN (xlst (xa_cons (xopE os_mul (xOE (xbf RE.back cs_abs rfl (c.b 82 rfl) (by decide +kernel) (xa_consO (xOE (xv 2 rfl (.inl rfl))) xa_nil))) (xOE (xbt RE.back cs_int rfl (c.b 74 rfl) (by decide +kernel) (xa_consO (xOE (xcmp os_ge (xOE (xbf RE.back cs_abs rfl (c.b 82 rfl) (by decide +kernel) (xa_consO (xOE (xv 2 rfl (.inl rfl))) xa_nil))) (xOE (xopE os_pow (xOE (xi 10)) (xOE (xi 18)))))) xa_nil)))) (xa_cons (xopE os_add (xOE (xopE os_add (xOE (xopE os_mod (xOE (xbt RE.back cs_int rfl (c.b 74 rfl) (by decide +kernel) (xa_consO (xOE (xv 2 rfl (.inl rfl))) xa_nil))) (xOE (xi 2305843009213693951)))) (xOE (xopE os_mul (xOE (xi 39373)) (xOE (xv 1 rfl (.inl rfl))))))) (xOE (xi 25155048))) (xa_cons (xi 0) xa_nil)))))) xss_nil))
/-! _law_take -/
def e__law_take (Γ : Gam) : Nf.S := (sSeq (sIf (tBl (eOp cGt (eTin 0 0) (eC (.int 0)))) (sSeq (sAsg (Nf.gName 2) (eOp oMod (eB bInt (aCons (eTin 0 0) aNil)) (eVar 1))) (sSeq (sTin 0 0 (eOp oDiv (eTin 0 0) (eVar 1))) (sSeq (sRet (eVar 2)) sNil))) sNil) (sSeq (sTin 0 2 (eOp oAdd (eTin 0 2) (eC (.int 1)))) (sSeq (sAsg (Nf.gName 3) (eOp oMod (eB bInt (aCons (eOp oMul (eOp oAdd (eTin 0 1) (eOp oMul (eC (.int 48271)) (eTin 0 2))) (eOp oAdd (eC (.int 39373)) (eTin 0 2))) aNil)) (eC (.int 2147483647)))) (sSeq (sAsg (Nf.gName 4) (eOp oAdd (eOp oMod (eB bInt (aCons (eVar 3) aNil)) (eC (.int 40009))) (eC (.int 7)))) (sSeq (sAsg (Nf.gName 5) (eOp oMod (eB bInt (aCons (eOp oMul (eOp oAdd (eOp oAdd (eVar 3) (eTin 0 2)) (eOp oDiv (eTin 0 1) (eC (.int 1000003)))) (eVar 4)) aNil)) (eC (.int 2147483629)))) (sSeq (sRet (eOp oMod (eB bInt (aCons (eOp oDiv (eOp oMod (eB bInt (aCons (eOp oAdd (eOp oMul (eVar 5) (eC (.int 48271))) (eVar 3)) aNil)) (eC (.int 2147483587))) (eC (.int 64))) aNil)) (eVar 1))) sNil))))))
theorem sc__law_take : FnScope ["tin", "below_so", "drawn_so", "once_so", "wide_so", "twice_so"] ["tin", "below_so"] (defScope (top 80)) := ⟨rfl, rfl, rfl, by decide +kernel, rfl, by decide +kernel, by decide +kernel⟩
theorem b__law_take {fd : FuncData} {ad : Addr} {kws : List (PySem.Str × V)} (F : FunD K "_law_take" "_law_take" (defArgs (top 80)) (defBody (top 80)) (defScope (top 80)) [] kws ad fd) : Binds K fd ["tin", "below_so"] [] := F.bindsN fun _ _ _ _ _ _ us hl => match us, hl with | [_, _], _ => rfl
theorem f__law_take (c : Cn fa fn tu K mg) : FunD K "_law_take" "_law_take" (defArgs (top 80)) (defBody (top 80)) (defScope (top 80)) [] [] (He.ga K "_law_take") (fdOf K (He.ga K "_law_take")) := c.f 58 (d := d__law_take) rfl
theorem k__law_take (c : Cn fa fn tu K mg) (Γ : Gam) : FO P w K mg base (k + 1) "_law_take" ["tin", "below_so"] (runDef 2 6 (e__law_take Γ)) := by
  refine fok (N := ["tin", "below_so", "drawn_so", "once_so", "wide_so", "twice_so"]) (fA K) (e__law_take Γ) (f__law_take c) sc__law_take (by decide) ?_
  intro cdv A outer s0 H E ta hr hf
  exact (xss_cons (xif' (xt_cmp os_gt (xOE (xtin 0 0 rfl (.inl rfl))) (xOE (xi 0))) (xss_cons (xset 2 sc__law_take.nd rfl (.inl rfl) (xopE os_mod (xOE (xbt RE.back cs_int rfl (c.b 74 rfl) (by decide +kernel) (xa_consO (xOE (xtin 0 0 rfl (.inl rfl))) xa_nil))) (xOE (xv 1 rfl (.inl rfl))))) (xss_cons (xtinSet 0 0 (xopE os_div (xOE (xtin 0 0 rfl (.inl rfl))) (xOE (xv 1 rfl (.inl rfl)))) rfl (.inl rfl)) (xss_cons (xret (xv 2 rfl (.inl rfl))) xss_nil))) xss_nil) (xss_cons (xtinSet 0 2 (xopE os_add (xOE (xtin 0 2 rfl (.inl rfl))) (xOE (xi 1))) rfl (.inl rfl)) (xss_cons (xset 3 sc__law_take.nd rfl (.inl rfl) (xopE os_mod (xOE (xbt RE.back cs_int rfl (c.b 74 rfl) (by decide +kernel) (xa_consO (xOE (xopE os_mul (xOE (xopE os_add (xOE (xtin 0 1 rfl (.inl rfl))) (xOE (xopE os_mul (xOE (xi 48271)) (xOE (xtin 0 2 rfl (.inl rfl))))))) (xOE (xopE os_add (xOE (xi 39373)) (xOE (xtin 0 2 rfl (.inl rfl))))))) xa_nil))) (xOE (xi 2147483647)))) (xss_cons (xset 4 sc__law_take.nd rfl (.inl rfl) (xopE os_add (xOE (xopE os_mod (xOE (xbt RE.back cs_int rfl (c.b 74 rfl) (by decide +kernel) (xa_consO (xOE (xv 3 rfl (.inl rfl))) xa_nil))) (xOE (xi 40009)))) (xOE (xi 7)))) (xss_cons (xset 5 sc__law_take.nd rfl (.inl rfl) (xopE os_mod (xOE (xbt RE.back cs_int rfl (c.b 74 rfl) (by decide +kernel) (xa_consO (xOE (xopE os_mul (xOE (xopE os_add (xOE (xopE os_add (xOE (xv 3 rfl (.inl rfl))) (xOE (xtin 0 2 rfl (.inl rfl))))) (xOE (xopE os_div (xOE (xtin 0 1 rfl (.inl rfl))) (xOE (xi 1000003)))))) (xOE (xv 4 rfl (.inl rfl))))) xa_nil))) (xOE (xi 2147483629)))) (xss_cons (xret (xopE os_mod (xOE (xbt RE.back cs_int rfl (c.b 74 rfl) (by decide +kernel) (xa_consO (xOE (xopE os_div (xOE (xopE os_mod (xOE (xbt RE.back cs_int rfl (c.b 74 rfl) (by decide +kernel) (xa_consO (xOE (xopE os_add (xOE (xopE os_mul (xOE (xv 5 rfl (.inl rfl))) (xOE (xi 48271)))) (xOE (xv 3 rfl (.inl rfl))))) xa_nil))) (xOE (xi 2147483587)))) (xOE (xi 64)))) xa_nil))) (xOE (xv 1 rfl (.inl rfl))))) xss_nil))))))
/-! _law_cells -/
def e__law_cells (Γ : Gam) : Nf.S := (sSeq (sAsgO 2 (eOr (eB bList (aCons (eSl (eVar 0) pNo (pAt (eVar 1))) aNil)) (eLst (aCons (eC (.int 0)) aNil)))) (sSeq (sFor (iEnum (aCons (eSl (eVar 0) (pAt (eVar 1)) (pAt (eC (.int 63)))) aNil)) (Nf.gTup [(Nf.gName 3), (Nf.gName 4)]) (sSeq (sAsg (Nf.gName 5) (eOp oMod (eB bInt (aCons (eVar 3) aNil)) (eVar 1))) (sSeq (sSet 2 (eVar 5) (eOp oAdd (eOp oIx (eOwn 2) (eVar 5)) (eOp oMul (eVar 4) (eOp oAdd (eVar 3) (eC (.int 2)))))) sNil))) (sSeq (sRet (eVar 2)) sNil)))
theorem sc__law_cells : FnScope ["script", "most_so", "cells_so", "k", "bit_so", "at_so"] ["script", "most_so"] (defScope (top 81)) := ⟨rfl, rfl, rfl, by decide +kernel, rfl, by decide +kernel, by decide +kernel⟩
theorem b__law_cells {fd : FuncData} {ad : Addr} {kws : List (PySem.Str × V)} (F : FunD K "_law_cells" "_law_cells" (defArgs (top 81)) (defBody (top 81)) (defScope (top 81)) [] kws ad fd) : Binds K fd ["script", "most_so"] [] := F.bindsN fun _ _ _ _ _ _ us hl => match us, hl with | [_, _], _ => rfl
theorem f__law_cells (c : Cn fa fn tu K mg) : FunD K "_law_cells" "_law_cells" (defArgs (top 81)) (defBody (top 81)) (defScope (top 81)) [] [] (He.ga K "_law_cells") (fdOf K (He.ga K "_law_cells")) := c.f 59 (d := d__law_cells) rfl
theorem k__law_cells (c : Cn fa fn tu K mg) (Γ : Gam) : FO P w K mg base (k + 1) "_law_cells" ["script", "most_so"] (runDef 2 6 (e__law_cells Γ)) := by
  refine fok (N := ["script", "most_so", "cells_so", "k", "bit_so", "at_so"]) (fA K) (e__law_cells Γ) (f__law_cells c) sc__law_cells (by decide) ?_
  intro cdv A outer s0 H E ta hr hf
  exact (xss_cons (xsetO 2 sc__law_cells.nd rfl (.inl rfl) (xorN (xbt RN.back cs_list rfl (c.b 77 rfl) (by decide +kernel) (xa_consO (xOE (xsl (xOE (xv 0 rfl (.inl rfl))) xp_no (xp_at (xOE (xv 1 rfl (.inl rfl)))))) xa_nil)) (xoneN (xlst (xa_cons (xi 0) xa_nil))))) (xss_cons (xfor PassesOwn.never (xi_enum rfl (c.b 86 rfl) (xa_cons (xsl (xOE (xv 0 rfl (.inl rfl))) (xp_at (xOE (xv 1 rfl (.inl rfl)))) (xp_at (xOE (xi 63)))) xa_nil)) (xg_tup (xgs_cons (xg_name 3 sc__law_cells.nd rfl (.inl rfl)) (xgs_cons (xg_name 4 sc__law_cells.nd rfl (.inl rfl)) xgs_nil))) (xss_cons (xset 5 sc__law_cells.nd rfl (.inl rfl) (xopE os_mod (xOE (xbt RE.back cs_int rfl (c.b 74 rfl) (by decide +kernel) (xa_consO (xOE (xv 3 rfl (.inl rfl))) xa_nil))) (xOE (xv 1 rfl (.inl rfl))))) (xss_cons (xsetIx 2 (xopE os_add (xOE (xix (xo 2 rfl (.inl rfl)) (xOE (xv 5 rfl (.inl rfl))))) (xOE (xopE os_mul (xOE (xv 4 rfl (.inl rfl))) (xOE (xopE os_add (xOE (xv 3 rfl (.inl rfl))) (xOE (xi 2))))))) (xOE (xv 5 rfl (.inl rfl))) rfl (.inl rfl)) xss_nil))) (xss_cons (xret (xv 2 rfl (.inl rfl))) xss_nil)))
/-! _law_same -/
def e__law_same (Γ : Gam) : Nf.S := (sSeq (sIf (tTru (eUn (uIsa2 .list .tuple) (eVar 1))) (sSeq (sIf (Nf.tOr (tBl (eOp cNe (eUn (uIsa .list) (eVar 0)) (eUn (uIsa .list) (eVar 1)))) (tBl (eOp cNe (eUn (uIsa .tuple) (eVar 0)) (eUn (uIsa .tuple) (eVar 1))))) (sSeq (sRet (eC (.bl false))) sNil) sNil) (sSeq (sRet (eAnd (eOp cEq (eB bLen (aCons (eVar 0) aNil)) (eB bLen (aCons (eVar 1) aNil))) (eB bAll (aCons (eComp (iZip (aCons (eVar 0) (aCons (eVar 1) aNil))) (Nf.gTup [(Nf.gName 2), (Nf.gName 3)]) [2, 3] Nf.tYes (eCall Γ c__law_same (aCons (eVar 2) (aCons (eVar 3) aNil)))) aNil)))) sNil)) sNil) (sSeq (sIf (tBl (eOp oIsN (eVar 1) (eC .non))) (sSeq (sRet (eOp oIsN (eVar 0) (eC .non))) sNil) sNil) (sSeq (sIf (tTru (eUn (uIsa2 .bool .str) (eVar 1))) (sSeq (sRet (eAnd (eOp cEq (eUn (uIsa .bool) (eVar 0)) (eUn (uIsa .bool) (eVar 1))) (eAnd (eOp cEq (eUn (uIsa .str) (eVar 0)) (eUn (uIsa .str) (eVar 1))) (eOp cEq (eVar 0) (eVar 1))))) sNil) sNil) (sSeq (sRet (eAnd (eUn (uIsa .int) (eVar 0)) (eAnd (eNot (eUn (uIsa .bool) (eVar 0))) (eOp cEq (eVar 0) (eVar 1))))) sNil))))
theorem sc__law_same : FnScope ["got", "due", "mine", "its"] ["got", "due"] (defScope (top 82)) := ⟨rfl, rfl, rfl, by decide +kernel, rfl, by decide +kernel, by decide +kernel⟩
theorem b__law_same {fd : FuncData} {ad : Addr} {kws : List (PySem.Str × V)} (F : FunD K "_law_same" "_law_same" (defArgs (top 82)) (defBody (top 82)) (defScope (top 82)) [] kws ad fd) : Binds K fd ["got", "due"] [] := F.bindsN fun _ _ _ _ _ _ us hl => match us, hl with | [_, _], _ => rfl
theorem f__law_same (c : Cn fa fn tu K mg) : FunD K "_law_same" "_law_same" (defArgs (top 82)) (defBody (top 82)) (defScope (top 82)) [] [] (He.ga K "_law_same") (fdOf K (He.ga K "_law_same")) := c.f 60 (d := d__law_same) rfl
theorem k__law_same (c : Cn fa fn tu K mg) (Γ : Gam) (h__law_same : FO P w K mg base k "_law_same" ["got", "due"] (Γ c__law_same)) : FO P w K mg base (k + 1) "_law_same" ["got", "due"] (runDef 2 4 (e__law_same Γ)) := by
  refine fok (N := ["got", "due", "mine", "its"]) (fA K) (e__law_same Γ) (f__law_same c) sc__law_same (by decide) ?_
  intro cdv A outer s0 H E ta hr hf
  exact (xss_cons (xif' (xt_tru (xOE (xisa2T .list .tuple rfl rfl rfl (c.b 73 rfl) rfl (c.b 77 rfl) rfl (c.b 76 rfl) (xOE (xv 1 rfl (.inl rfl)))))) (xss_cons (xif' (PW.pt (xw_or (xt_cmp os_ne (xOE (xisaT .list rfl rfl (c.b 73 rfl) rfl (c.b 77 rfl) (xOE (xv 0 rfl (.inl rfl))))) (xOE (xisaT .list rfl rfl (c.b 73 rfl) rfl (c.b 77 rfl) (xOE (xv 1 rfl (.inl rfl)))))) (xw_or1 (xt_cmp os_ne (xOE (xisaT .tuple rfl rfl (c.b 73 rfl) rfl (c.b 76 rfl) (xOE (xv 0 rfl (.inl rfl))))) (xOE (xisaT .tuple rfl rfl (c.b 73 rfl) rfl (c.b 76 rfl) (xOE (xv 1 rfl (.inl rfl))))))))) (xss_cons (xret (xb false)) xss_nil) xss_nil) (xss_cons (xret (xand (xcmp os_eq (xOE (xbf RE.back cs_len rfl (c.b 70 rfl) (by decide +kernel) (xa_consO (xOE (xv 0 rfl (.inl rfl))) xa_nil))) (xOE (xbf RE.back cs_len rfl (c.b 70 rfl) (by decide +kernel) (xa_consO (xOE (xv 1 rfl (.inl rfl))) xa_nil)))) (xoneN (xbf RE.back cs_all rfl (c.b 71 rfl) (by decide +kernel) (xa_consO (xOE (xEN (xcomp [2, 3] sc__law_same.nd (xiG (xi_zip rfl (c.b 79 rfl) (xa_cons (xv 0 rfl (.inl rfl)) (xa_cons (xv 1 rfl (.inl rfl)) xa_nil)))) (blkOk_by (own := [("mine", 2), ("its", 3)]) (by kernel_rfl)) rfl (fun _ _ _ _ _ => (xg_tup (xgs_cons (xg_name 2 sc__law_same.nd rfl (.inl rfl)) (xgs_cons (xg_name 3 sc__law_same.nd rfl (.inl rfl)) xgs_nil)))) (fun _ _ _ _ _ => xts_nil) (fun _ _ _ _ _ => (xcall Γ c__law_same h__law_same hr rfl (c.g 60 rfl) (f__law_same c).kp (b__law_same (f__law_same c)) (xa_cons (xv 2 rfl (.inl rfl)) (xa_cons (xv 3 rfl (.inl rfl)) xa_nil))))))) xa_nil))))) xss_nil)) xss_nil) (xss_cons (xif' (xt_cmp os_isN (xOE (xv 1 rfl (.inl rfl))) (xOE xn)) (xss_cons (xret (xcmp os_isN (xOE (xv 0 rfl (.inl rfl))) (xOE xn))) xss_nil) xss_nil) (xss_cons (xif' (xt_tru (xOE (xisa2T .bool .str rfl rfl rfl (c.b 73 rfl) rfl (c.b 75 rfl) rfl (c.b 89 rfl) (xOE (xv 1 rfl (.inl rfl)))))) (xss_cons (xret (xand (xcmp os_eq (xOE (xisaT .bool rfl rfl (c.b 73 rfl) rfl (c.b 75 rfl) (xOE (xv 0 rfl (.inl rfl))))) (xOE (xisaT .bool rfl rfl (c.b 73 rfl) rfl (c.b 75 rfl) (xOE (xv 1 rfl (.inl rfl)))))) (xand (xcmp os_eq (xOE (xisaT .str rfl rfl (c.b 73 rfl) rfl (c.b 89 rfl) (xOE (xv 0 rfl (.inl rfl))))) (xOE (xisaT .str rfl rfl (c.b 73 rfl) rfl (c.b 89 rfl) (xOE (xv 1 rfl (.inl rfl)))))) (xoneN (xcmp os_eq (xOE (xv 0 rfl (.inl rfl))) (xOE (xv 1 rfl (.inl rfl)))))))) xss_nil) xss_nil) (xss_cons (xret (xand (xisaT .int rfl rfl (c.b 73 rfl) rfl (c.b 74 rfl) (xOE (xv 0 rfl (.inl rfl)))) (xand (xnot (xOE (xisaT .bool rfl rfl (c.b 73 rfl) rfl (c.b 75 rfl) (xOE (xv 0 rfl (.inl rfl)))))) (xoneN (xcmp os_eq (xOE (xv 0 rfl (.inl rfl))) (xOE (xv 1 rfl (.inl rfl)))))))) xss_nil))))
/-! _law_gcd -/
def e__law_gcd (Γ : Gam) : Nf.S := (sSeq (sPar [(0, false), (1, false)] (aCons (eB bAbs (aCons (eVar 0) aNil)) (aCons (eB bAbs (aCons (eVar 1) aNil)) aNil))) (sSeq (sFor (iRange1 (aCons (eC (.int 9000)) aNil)) (Nf.gName 2) (sSeq (sIf (tBl (eOp cEq (eVar 1) (eC (.int 0)))) (sSeq sBreak sNil) sNil) (sSeq (sPar [(0, false), (1, false)] (aCons (eVar 1) (aCons (eOp oMod (eVar 0) (eVar 1)) aNil))) sNil))) (sSeq (sRet (eVar 0)) sNil)))
theorem sc__law_gcd : FnScope ["one", "two", "lap"] ["one", "two"] (defScope (top 83)) := ⟨rfl, rfl, rfl, by decide +kernel, rfl, by decide +kernel, by decide +kernel⟩
theorem b__law_gcd {fd : FuncData} {ad : Addr} {kws : List (PySem.Str × V)} (F : FunD K "_law_gcd" "_law_gcd" (defArgs (top 83)) (defBody (top 83)) (defScope (top 83)) [] kws ad fd) : Binds K fd ["one", "two"] [] := F.bindsN fun _ _ _ _ _ _ us hl => match us, hl with | [_, _], _ => rfl
theorem f__law_gcd (c : Cn fa fn tu K mg) : FunD K "_law_gcd" "_law_gcd" (defArgs (top 83)) (defBody (top 83)) (defScope (top 83)) [] [] (He.ga K "_law_gcd") (fdOf K (He.ga K "_law_gcd")) := c.f 61 (d := d__law_gcd) rfl
theorem k__law_gcd (c : Cn fa fn tu K mg) (Γ : Gam) : FO P w K mg base (k + 1) "_law_gcd" ["one", "two"] (runDef 2 3 (e__law_gcd Γ)) := by
  refine fok (N := ["one", "two", "lap"]) (fA K) (e__law_gcd Γ) (f__law_gcd c) sc__law_gcd (by decide) ?_
  intro cdv A outer s0 H E ta hr hf
  exact (xss_cons (xpar2 (b1 := false) (b2 := false) sc__law_gcd.nd (i := 0)  (j := 1) rfl rfl (by decide) rfl rfl (xm_e (xbf RE.back cs_abs rfl (c.b 82 rfl) (by decide +kernel) (xa_consO (xOE (xv 0 rfl (.inl rfl))) xa_nil)) (xm_e (xbf RE.back cs_abs rfl (c.b 82 rfl) (by decide +kernel) (xa_consO (xOE (xv 1 rfl (.inl rfl))) xa_nil)) xm_nil)) rfl) (xss_cons (xfor PassesOwn.never (xi_range1 rfl (c.b 78 rfl) (xa_consO (xOE (xi 9000)) xa_nil)) (xg_name 2 sc__law_gcd.nd rfl (.inl rfl)) (xss_cons (xif' (xt_cmp os_eq (xOE (xv 1 rfl (.inl rfl))) (xOE (xi 0))) (xss_cons xbreak xss_nil) xss_nil) (xss_cons (xpar2 (b1 := false) (b2 := false) sc__law_gcd.nd (i := 0)  (j := 1) rfl rfl (by decide) rfl rfl (xm_e (xv 1 rfl (.inl rfl)) (xm_e (xopE os_mod (xOE (xv 0 rfl (.inl rfl))) (xOE (xv 1 rfl (.inl rfl)))) xm_nil)) rfl) xss_nil))) (xss_cons (xret (xv 0 rfl (.inl rfl))) xss_nil)))
/-! _law_slim -/
def e__law_slim (Γ : Gam) : Nf.S := (sSeq (sAsg (Nf.gName 2) (eCall Γ c__law_gcd (aCons (eVar 0) (aCons (eVar 1) aNil)))) (sSeq (sRet (eIf (tBl (eOp cGt (eVar 1) (eC (.int 0)))) (eTup (aCons (eOp oDiv (eVar 0) (eVar 2)) (aCons (eOp oDiv (eVar 1) (eVar 2)) aNil))) (eTup (aCons (eOp oSub (eC (.int 0)) (eOp oDiv (eVar 0) (eVar 2))) (aCons (eOp oSub (eC (.int 0)) (eOp oDiv (eVar 1) (eVar 2))) aNil))))) sNil))
theorem sc__law_slim : FnScope ["over", "under", "both_so"] ["over", "under"] (defScope (top 84)) := ⟨rfl, rfl, rfl, by decide +kernel, rfl, by decide +kernel, by decide +kernel⟩
theorem b__law_slim {fd : FuncData} {ad : Addr} {kws : List (PySem.Str × V)} (F : FunD K "_law_slim" "_law_slim" (defArgs (top 84)) (defBody (top 84)) (defScope (top 84)) [] kws ad fd) : Binds K fd ["over", "under"] [] := F.bindsN fun _ _ _ _ _ _ us hl => match us, hl with | [_, _], _ => rfl
theorem f__law_slim (c : Cn fa fn tu K mg) : FunD K "_law_slim" "_law_slim" (defArgs (top 84)) (defBody (top 84)) (defScope (top 84)) [] [] (He.ga K "_law_slim") (fdOf K (He.ga K "_law_slim")) := c.f 62 (d := d__law_slim) rfl
theorem k__law_slim (c : Cn fa fn tu K mg) (Γ : Gam) (h__law_gcd : FO P w K mg base k "_law_gcd" ["one", "two"] (Γ c__law_gcd)) : FO P w K mg base (k + 1) "_law_slim" ["over", "under"] (runDef 2 3 (e__law_slim Γ)) := by
  refine fok (N := ["over", "under", "both_so"]) (fA K) (e__law_slim Γ) (f__law_slim c) sc__law_slim (by decide) ?_
  intro cdv A outer s0 H E ta hr hf
  exact (xss_cons (xset 2 sc__law_slim.nd rfl (.inl rfl) (xcall Γ c__law_gcd h__law_gcd hr rfl (c.g 61 rfl) (f__law_gcd c).kp (b__law_gcd (f__law_gcd c)) (xa_cons (xv 0 rfl (.inl rfl)) (xa_cons (xv 1 rfl (.inl rfl)) xa_nil)))) (xss_cons (xret (xif (xt_cmp os_gt (xOE (xv 1 rfl (.inl rfl))) (xOE (xi 0))) (xtup (xa_cons (xopE os_div (xOE (xv 0 rfl (.inl rfl))) (xOE (xv 2 rfl (.inl rfl)))) (xa_cons (xopE os_div (xOE (xv 1 rfl (.inl rfl))) (xOE (xv 2 rfl (.inl rfl)))) xa_nil))) (xtup (xa_cons (xopE os_sub (xOE (xi 0)) (xOE (xopE os_div (xOE (xv 0 rfl (.inl rfl))) (xOE (xv 2 rfl (.inl rfl)))))) (xa_cons (xopE os_sub (xOE (xi 0)) (xOE (xopE os_div (xOE (xv 1 rfl (.inl rfl))) (xOE (xv 2 rfl (.inl rfl)))))) xa_nil))))) xss_nil))
/-! _law_plus -/
def e__law_plus (Γ : Gam) : Nf.S := (sSeq (sRet (eCall Γ c__law_slim (aCons (eOp oAdd (eOp oMul (eOp oIx (eVar 0) (eC (.int 0))) (eOp oIx (eVar 1) (eC (.int 1)))) (eOp oMul (eOp oIx (eVar 1) (eC (.int 0))) (eOp oIx (eVar 0) (eC (.int 1))))) (aCons (eOp oMul (eOp oIx (eVar 0) (eC (.int 1))) (eOp oIx (eVar 1) (eC (.int 1)))) aNil)))) sNil)
theorem sc__law_plus : FnScope ["one", "two"] ["one", "two"] (defScope (top 85)) := ⟨rfl, rfl, rfl, by decide +kernel, rfl, by decide +kernel, by decide +kernel⟩
theorem b__law_plus {fd : FuncData} {ad : Addr} {kws : List (PySem.Str × V)} (F : FunD K "_law_plus" "_law_plus" (defArgs (top 85)) (defBody (top 85)) (defScope (top 85)) [] kws ad fd) : Binds K fd ["one", "two"] [] := F.bindsN fun _ _ _ _ _ _ us hl => match us, hl with | [_, _], _ => rfl
theorem f__law_plus (c : Cn fa fn tu K mg) : FunD K "_law_plus" "_law_plus" (defArgs (top 85)) (defBody (top 85)) (defScope (top 85)) [] [] (He.ga K "_law_plus") (fdOf K (He.ga K "_law_plus")) := c.f 63 (d := d__law_plus) rfl
theorem k__law_plus (c : Cn fa fn tu K mg) (Γ : Gam) (h__law_slim : FO P w K mg base k "_law_slim" ["over", "under"] (Γ c__law_slim)) : FO P w K mg base (k + 1) "_law_plus" ["one", "two"] (runDef 2 2 (e__law_plus Γ)) := by
  refine fok (N := ["one", "two"]) (fA K) (e__law_plus Γ) (f__law_plus c) sc__law_plus (by decide) ?_
  intro cdv A outer s0 H E ta hr hf
  exact (xss_cons (xret (xcall Γ c__law_slim h__law_slim hr rfl (c.g 62 rfl) (f__law_slim c).kp (b__law_slim (f__law_slim c)) (xa_cons (xopE os_add (xOE (xopE os_mul (xOE (xix (xOE (xv 0 rfl (.inl rfl))) (xOE (xi 0)))) (xOE (xix (xOE (xv 1 rfl (.inl rfl))) (xOE (xi 1)))))) (xOE (xopE os_mul (xOE (xix (xOE (xv 1 rfl (.inl rfl))) (xOE (xi 0)))) (xOE (xix (xOE (xv 0 rfl (.inl rfl))) (xOE (xi 1))))))) (xa_cons (xopE os_mul (xOE (xix (xOE (xv 0 rfl (.inl rfl))) (xOE (xi 1)))) (xOE (xix (xOE (xv 1 rfl (.inl rfl))) (xOE (xi 1))))) xa_nil)))) xss_nil)
/-! _law_times -/
def e__law_times (Γ : Gam) : Nf.S := (sSeq (sRet (eCall Γ c__law_slim (aCons (eOp oMul (eOp oIx (eVar 0) (eC (.int 0))) (eOp oIx (eVar 1) (eC (.int 0)))) (aCons (eOp oMul (eOp oIx (eVar 0) (eC (.int 1))) (eOp oIx (eVar 1) (eC (.int 1)))) aNil)))) sNil)
theorem sc__law_times : FnScope ["one", "two"] ["one", "two"] (defScope (top 86)) := ⟨rfl, rfl, rfl, by decide +kernel, rfl, by decide +kernel, by decide +kernel⟩
theorem b__law_times {fd : FuncData} {ad : Addr} {kws : List (PySem.Str × V)} (F : FunD K "_law_times" "_law_times" (defArgs (top 86)) (defBody (top 86)) (defScope (top 86)) [] kws ad fd) : Binds K fd ["one", "two"] [] := F.bindsN fun _ _ _ _ _ _ us hl => match us, hl with | [_, _], _ => rfl
theorem f__law_times (c : Cn fa fn tu K mg) : FunD K "_law_times" "_law_times" (defArgs (top 86)) (defBody (top 86)) (defScope (top 86)) [] [] (He.ga K "_law_times") (fdOf K (He.ga K "_law_times")) := c.f 64 (d := d__law_times) rfl
theorem k__law_times (c : Cn fa fn tu K mg) (Γ : Gam) (h__law_slim : FO P w K mg base k "_law_slim" ["over", "under"] (Γ c__law_slim)) : FO P w K mg base (k + 1) "_law_times" ["one", "two"] (runDef 2 2 (e__law_times Γ)) := by
  refine fok (N := ["one", "two"]) (fA K) (e__law_times Γ) (f__law_times c) sc__law_times (by decide) ?_
  intro cdv A outer s0 H E ta hr hf
  exact (xss_cons (xret (xcall Γ c__law_slim h__law_slim hr rfl (c.g 62 rfl) (f__law_slim c).kp (b__law_slim (f__law_slim c)) (xa_cons (xopE os_mul (xOE (xix (xOE (xv 0 rfl (.inl rfl))) (xOE (xi 0)))) (xOE (xix (xOE (xv 1 rfl (.inl rfl))) (xOE (xi 0))))) (xa_cons (xopE os_mul (xOE (xix (xOE (xv 0 rfl (.inl rfl))) (xOE (xi 1)))) (xOE (xix (xOE (xv 1 rfl (.inl rfl))) (xOE (xi 1))))) xa_nil)))) xss_nil)
/-! _law_value -/
def e__law_value (Γ : Gam) : Nf.S := (sSeq (sAsg (Nf.gName 2) (eTup (aCons (eC (.int 0)) (aCons (eC (.int 1)) aNil)))) (sSeq (sFor (iSeq (eUn oRev (eVar 0))) (Nf.gName 3) (sSeq (sAsg (Nf.gName 2) (eCall Γ c__law_plus (aCons (eCall Γ c__law_times (aCons (eVar 2) (aCons (eTup (aCons (eVar 1) (aCons (eC (.int 1)) aNil))) aNil))) (aCons (eVar 3) aNil)))) sNil)) (sSeq (sRet (eVar 2)) sNil)))
theorem sc__law_value : FnScope ["poly_so", "number_so", "total_so", "own"] ["poly_so", "number_so"] (defScope (top 87)) := ⟨rfl, rfl, rfl, by decide +kernel, rfl, by decide +kernel, by decide +kernel⟩
theorem b__law_value {fd : FuncData} {ad : Addr} {kws : List (PySem.Str × V)} (F : FunD K "_law_value" "_law_value" (defArgs (top 87)) (defBody (top 87)) (defScope (top 87)) [] kws ad fd) : Binds K fd ["poly_so", "number_so"] [] := F.bindsN fun _ _ _ _ _ _ us hl => match us, hl with | [_, _], _ => rfl
theorem f__law_value (c : Cn fa fn tu K mg) : FunD K "_law_value" "_law_value" (defArgs (top 87)) (defBody (top 87)) (defScope (top 87)) [] [] (He.ga K "_law_value") (fdOf K (He.ga K "_law_value")) := c.f 65 (d := d__law_value) rfl
theorem k__law_value (c : Cn fa fn tu K mg) (Γ : Gam) (h__law_plus : FO P w K mg base k "_law_plus" ["one", "two"] (Γ c__law_plus)) (h__law_times : FO P w K mg base k "_law_times" ["one", "two"] (Γ c__law_times)) : FO P w K mg base (k + 1) "_law_value" ["poly_so", "number_so"] (runDef 2 4 (e__law_value Γ)) := by
  refine fok (N := ["poly_so", "number_so", "total_so", "own"]) (fA K) (e__law_value Γ) (f__law_value c) sc__law_value (by decide) ?_
  intro cdv A outer s0 H E ta hr hf
  exact (xss_cons (xset 2 sc__law_value.nd rfl (.inl rfl) (xtup (xa_cons (xi 0) (xa_cons (xi 1) xa_nil)))) (xss_cons (xfor PassesOwn.never (xi_seq (xrev (xOE (xv 0 rfl (.inl rfl))))) (xg_name 3 sc__law_value.nd rfl (.inl rfl)) (xss_cons (xset 2 sc__law_value.nd rfl (.inl rfl) (xcall Γ c__law_plus h__law_plus hr rfl (c.g 63 rfl) (f__law_plus c).kp (b__law_plus (f__law_plus c)) (xa_cons (xcall Γ c__law_times h__law_times hr rfl (c.g 64 rfl) (f__law_times c).kp (b__law_times (f__law_times c)) (xa_cons (xv 2 rfl (.inl rfl)) (xa_cons (xtup (xa_cons (xv 1 rfl (.inl rfl)) (xa_cons (xi 1) xa_nil))) xa_nil))) (xa_cons (xv 3 rfl (.inl rfl)) xa_nil)))) xss_nil)) (xss_cons (xret (xv 2 rfl (.inl rfl))) xss_nil)))
/-! _law_size -/
def e__law_size (Γ : Gam) : Nf.S := (sSeq (sAsg (Nf.gName 2) (eC (.int 1))) (sSeq (sFor (iRange1 (aCons (eVar 1) aNil)) (Nf.gName 3) (sSeq (sAsg (Nf.gName 2) (eOp oMul (eVar 2) (eVar 0))) sNil)) (sSeq (sRet (eVar 2)) sNil)))
theorem sc__law_size : FnScope ["base_so", "many_so", "found", "lap"] ["base_so", "many_so"] (defScope (top 88)) := ⟨rfl, rfl, rfl, by decide +kernel, rfl, by decide +kernel, by decide +kernel⟩
theorem b__law_size {fd : FuncData} {ad : Addr} {kws : List (PySem.Str × V)} (F : FunD K "_law_size" "_law_size" (defArgs (top 88)) (defBody (top 88)) (defScope (top 88)) [] kws ad fd) : Binds K fd ["base_so", "many_so"] [] := F.bindsN fun _ _ _ _ _ _ us hl => match us, hl with | [_, _], _ => rfl
theorem f__law_size (c : Cn fa fn tu K mg) : FunD K "_law_size" "_law_size" (defArgs (top 88)) (defBody (top 88)) (defScope (top 88)) [] [] (He.ga K "_law_size") (fdOf K (He.ga K "_law_size")) := c.f 66 (d := d__law_size) rfl
theorem k__law_size (c : Cn fa fn tu K mg) (Γ : Gam) : FO P w K mg base (k + 1) "_law_size" ["base_so", "many_so"] (runDef 2 4 (e__law_size Γ)) := by
  refine fok (N := ["base_so", "many_so", "found", "lap"]) (fA K) (e__law_size Γ) (f__law_size c) sc__law_size (by decide) ?_
  intro cdv A outer s0 H E ta hr hf
  exact (xss_cons (xset 2 sc__law_size.nd rfl (.inl rfl) (xi 1)) (xss_cons (xfor PassesOwn.never (xi_range1 rfl (c.b 78 rfl) (xa_consO (xOE (xv 1 rfl (.inl rfl))) xa_nil)) (xg_name 3 sc__law_size.nd rfl (.inl rfl)) (xss_cons (xset 2 sc__law_size.nd rfl (.inl rfl) (xopE os_mul (xOE (xv 2 rfl (.inl rfl))) (xOE (xv 0 rfl (.inl rfl))))) xss_nil)) (xss_cons (xret (xv 2 rfl (.inl rfl))) xss_nil)))
/-! _law_ways -/
def e__law_ways (Γ : Gam) : Nf.S := (sSeq (sAsg (Nf.gName 1) (eLst (aCons (eC (.int 1)) aNil))) (sSeq (sFor (iRange1 (aCons (eVar 0) aNil)) (Nf.gName 2) (sSeq (sAsgO 3 (eOp oMulL (eLst (aCons (eC (.int 0)) aNil)) (eOp oAdd (eB bLen (aCons (eVar 1) aNil)) (eC (.int 1))))) (sSeq (sFor (iEnum (aCons (eVar 1) aNil)) (Nf.gTup [(Nf.gName 4), (Nf.gName 5)]) (sSeq (sSet 3 (eVar 4) (eOp oAdd (eOp oIx (eOwn 3) (eVar 4)) (eOp oMul (eVar 4) (eVar 5)))) (sSeq (sSet 3 (eOp oAdd (eVar 4) (eC (.int 1))) (eOp oAdd (eOp oIx (eOwn 3) (eOp oAdd (eVar 4) (eC (.int 1)))) (eOp oMul (eOp oAdd (eVar 4) (eC (.int 1))) (eVar 5)))) sNil))) (sSeq (sFrz 3 (sAsg (Nf.gName 1) (eVar 3))) sNil)))) (sSeq (sRet (eVar 1)) sNil)))
theorem sc__law_ways : FnScope ["power_so", "row_so", "lap", "longer_so", "k", "own"] ["power_so"] (defScope (top 89)) := ⟨rfl, rfl, rfl, by decide +kernel, rfl, by decide +kernel, by decide +kernel⟩
theorem b__law_ways {fd : FuncData} {ad : Addr} {kws : List (PySem.Str × V)} (F : FunD K "_law_ways" "_law_ways" (defArgs (top 89)) (defBody (top 89)) (defScope (top 89)) [] kws ad fd) : Binds K fd ["power_so"] [] := F.bindsN fun _ _ _ _ _ _ us hl => match us, hl with | [_], _ => rfl
theorem f__law_ways (c : Cn fa fn tu K mg) : FunD K "_law_ways" "_law_ways" (defArgs (top 89)) (defBody (top 89)) (defScope (top 89)) [] [] (He.ga K "_law_ways") (fdOf K (He.ga K "_law_ways")) := c.f 67 (d := d__law_ways) rfl
theorem k__law_ways (c : Cn fa fn tu K mg) (Γ : Gam) : FO P w K mg base (k + 1) "_law_ways" ["power_so"] (runDef 1 6 (e__law_ways Γ)) := by
  refine fok (N := ["power_so", "row_so", "lap", "longer_so", "k", "own"]) (fA K) (e__law_ways Γ) (f__law_ways c) sc__law_ways (by decide) ?_
  intro cdv A outer s0 H E ta hr hf
  exact (xss_cons (xset 1 sc__law_ways.nd rfl (.inl rfl) (xEN (xlst (xa_cons (xi 1) xa_nil)))) (xss_cons (xfor PassesOwn.never (xi_range1 rfl (c.b 78 rfl) (xa_consO (xOE (xv 0 rfl (.inl rfl))) xa_nil)) (xg_name 2 sc__law_ways.nd rfl (.inl rfl)) (xss_cons (xsetO 3 sc__law_ways.nd rfl (.inl rfl) (xopN os_mulL (xOE (xEN (xlst (xa_cons (xi 0) xa_nil)))) (xOE (xopE os_add (xOE (xbf RE.back cs_len rfl (c.b 70 rfl) (by decide +kernel) (xa_consO (xOE (xv 1 rfl (.inl rfl))) xa_nil))) (xOE (xi 1)))))) (xss_cons (xfor PassesOwn.never (xi_enum rfl (c.b 86 rfl) (xa_cons (xv 1 rfl (.inl rfl)) xa_nil)) (xg_tup (xgs_cons (xg_name 4 sc__law_ways.nd rfl (.inl rfl)) (xgs_cons (xg_name 5 sc__law_ways.nd rfl (.inl rfl)) xgs_nil))) (xss_cons (xsetIx 3 (xopE os_add (xOE (xix (xo 3 rfl (.inl rfl)) (xOE (xv 4 rfl (.inl rfl))))) (xOE (xopE os_mul (xOE (xv 4 rfl (.inl rfl))) (xOE (xv 5 rfl (.inl rfl)))))) (xOE (xv 4 rfl (.inl rfl))) rfl (.inl rfl)) (xss_cons (xsetIx 3 (xopE os_add (xOE (xix (xo 3 rfl (.inl rfl)) (xOE (xopE os_add (xOE (xv 4 rfl (.inl rfl))) (xOE (xi 1)))))) (xOE (xopE os_mul (xOE (xopE os_add (xOE (xv 4 rfl (.inl rfl))) (xOE (xi 1)))) (xOE (xv 5 rfl (.inl rfl)))))) (xOE (xopE os_add (xOE (xv 4 rfl (.inl rfl))) (xOE (xi 1)))) rfl (.inl rfl)) xss_nil))) (xss_cons (xfrz 3 (xset 1 sc__law_ways.nd rfl (.inl rfl) (xv 3 rfl (.inl rfl)))) xss_nil)))) (xss_cons (xret (xv 1 rfl (.inl rfl))) xss_nil)))
/-! _law_right -/
def e__law_right (Γ : Gam) : Nf.S := (sSeq (sAsg (Nf.gTup [(Nf.gName 1), (Nf.gName 2)]) (eTup (aCons (eTup (aCons (eC (.int 1)) (aCons (eTup (aCons (eC (.int 0)) aNil)) (aCons (eTup aNil) aNil)))) (aCons (eCall Γ c__law_take (aCons (eVar 0) (aCons (eC (.int 13)) aNil))) aNil)))) (sSeq (sAsg (Nf.gName 3) (eOp oAdd (eOp oMul (eTup (aCons (eTup (aCons (eC (.int 0)) (aCons (eC (.int 1)) aNil))) aNil)) (eVar 2)) (eTup (aCons (eTup (aCons (eC (.int 1)) (aCons (eC (.int 1)) aNil))) aNil)))) (sSeq (sAsg (Nf.gName 4) (eCall Γ c__law_ways (aCons (eVar 2) aNil))) (sSeq (sIf (Nf.tNot (tTru (eCall Γ c__law_same (aCons (eLst (aCons (eCall Γ c_poly_shares (aCons (eVar 1) (aCons (eVar 3) aNil))) (aCons (eCall Γ c_whole_shares (aCons (eVar 1) (aCons (eVar 3) aNil))) (aCons (eCall Γ c_shares_sum (aCons (eVar 1) (aCons (eB bTuple (aCons (eComp (iSeq (eVar 4)) (Nf.gName 9) [9] Nf.tYes (eTup (aCons (eVar 9) (aCons (eC (.int 1)) aNil)))) aNil)) aNil))) aNil)))) (aCons (eLst (aCons (eB bTuple (aCons (eComp (iSeq (eVar 4)) (Nf.gName 9) [9] Nf.tYes (eTup (aCons (eVar 9) (aCons (eC (.int 1)) aNil)))) aNil)) (aCons (eB bTuple (aCons (eVar 4) aNil)) (aCons (eVar 3) aNil)))) aNil))))) (sSeq (sRet (eC (.bl false))) sNil) sNil) (sSeq (sAsg (Nf.gName 5) (eCall Γ c_poly_row (aCons (eVar 3) (aCons (eC (.int 0)) (aCons (eOp oAdd (eVar 2) (eC (.int 1))) aNil))))) (sSeq (sIf (Nf.tOr (tBl (eOp cNe (eVar 5) (eB bTuple (aCons (eComp (iRange1 (aCons (eOp oAdd (eVar 2) (eC (.int 1))) aNil)) (Nf.gName 10) [10] Nf.tYes (eTup (aCons (eCall Γ c__law_size (aCons (eVar 10) (aCons (eVar 2) aNil))) (aCons (eC (.int 1)) aNil)))) aNil)))) (Nf.tOr (tBl (eOp cNe (eCall Γ c_row_gaps (aCons (eVar 5) aNil)) (eB bTuple (aCons (eComp (iSeq (eVar 4)) (Nf.gName 9) [9] Nf.tYes (eTup (aCons (eVar 9) (aCons (eC (.int 1)) aNil)))) aNil)))) (tBl (eOp cNe (eCall Γ c_row_poly (aCons (eVar 5) aNil)) (eVar 3))))) (sSeq (sRet (eC (.bl false))) sNil) sNil) (sSeq (sAsg (Nf.gName 6) (eCall Γ c__law_take (aCons (eVar 0) (aCons (eC (.int 20)) aNil)))) (sSeq (sAsg (Nf.gName 7) (eCall Γ c_sum_poly (aCons (eVar 3) aNil))) (sSeq (sAsg (Nf.gName 8) (eB bSum (aCons (eComp (iRange1 (aCons (eOp oAdd (eVar 6) (eC (.int 1))) aNil)) (Nf.gName 10) [10] Nf.tYes (eCall Γ c__law_size (aCons (eVar 10) (aCons (eVar 2) aNil)))) aNil))) (sSeq (sIf (Nf.tOr (tBl (eOp cNe (eCall Γ c_stretch_sum (aCons (eVar 3) (aCons (eC (.int 0)) (aCons (eVar 6) aNil)))) (eTup (aCons (eVar 8) (aCons (eC (.int 1)) aNil))))) (tBl (eOp cNe (eCall Γ c__law_value (aCons (eVar 7) (aCons (eOp oAdd (eVar 6) (eC (.int 1))) aNil))) (eTup (aCons (eVar 8) (aCons (eC (.int 1)) aNil)))))) (sSeq (sRet (eC (.bl false))) sNil) sNil) (sSeq (sRet (eAnd (eOp cEq (eCall Γ c_poly_shares (aCons (eVar 1) (aCons (eVar 7) aNil))) (eOp oAdd (eTup (aCons (eTup (aCons (eC (.int 0)) (aCons (eC (.int 1)) aNil))) aNil)) (eB bTuple (aCons (eComp (iSeq (eVar 4)) (Nf.gName 9) [9] Nf.tYes (eTup (aCons (eVar 9) (aCons (eC (.int 1)) aNil)))) aNil)))) (eOp cEq (eOp oIx (eVar 7) (eUn uNeg (eC (.int 1)))) (eTup (aCons (eC (.int 1)) (aCons (eOp oAdd (eVar 2) (eC (.int 1))) aNil)))))) sNil)))))))))))
theorem sc__law_right : FnScope ["tin", "every", "power_so", "poly_so", "due", "row_so", "many_so", "total_so", "sums_so", "own", "k"] ["tin"] (defScope (top 90)) := ⟨rfl, rfl, rfl, by decide +kernel, rfl, by decide +kernel, by decide +kernel⟩
theorem b__law_right {fd : FuncData} {ad : Addr} {kws : List (PySem.Str × V)} (F : FunD K "_law_right" "_law_right" (defArgs (top 90)) (defBody (top 90)) (defScope (top 90)) [] kws ad fd) : Binds K fd ["tin"] [] := F.bindsN fun _ _ _ _ _ _ us hl => match us, hl with | [_], _ => rfl
theorem f__law_right (c : Cn fa fn tu K mg) : FunD K "_law_right" "_law_right" (defArgs (top 90)) (defBody (top 90)) (defScope (top 90)) [] [] (He.ga K "_law_right") (fdOf K (He.ga K "_law_right")) := c.f 68 (d := d__law_right) rfl
theorem k__law_right (c : Cn fa fn tu K mg) (Γ : Gam) (h__law_take : FO P w K mg base k "_law_take" ["tin", "below_so"] (Γ c__law_take)) (h__law_ways : FO P w K mg base k "_law_ways" ["power_so"] (Γ c__law_ways)) (h__law_same : FO P w K mg base k "_law_same" ["got", "due"] (Γ c__law_same)) (h_shares_sum : FO P w K mg base k "shares_sum" ["lot", "shares"] (Γ c_shares_sum)) (h_whole_shares : FO P w K mg base k "whole_shares" ["lot", "poly"] (Γ c_whole_shares)) (h_poly_shares : FO P w K mg base k "poly_shares" ["lot", "poly"] (Γ c_poly_shares)) (h_poly_row : FO P w K mg base k "poly_row" ["poly", "first", "many"] (Γ c_poly_row)) (h__law_size : FO P w K mg base k "_law_size" ["base_so", "many_so"] (Γ c__law_size)) (h_row_gaps : FO P w K mg base k "row_gaps" ["values"] (Γ c_row_gaps)) (h_row_poly : FO P w K mg base k "row_poly" ["values"] (Γ c_row_poly)) (h_sum_poly : FO P w K mg base k "sum_poly" ["poly"] (Γ c_sum_poly)) (h_stretch_sum : FO P w K mg base k "stretch_sum" ["poly", "first", "last"] (Γ c_stretch_sum)) (h__law_value : FO P w K mg base k "_law_value" ["poly_so", "number_so"] (Γ c__law_value)) : FO P w K mg base (k + 1) "_law_right" ["tin"] (runDef 1 11 (e__law_right Γ)) := by
  refine fok (N := ["tin", "every", "power_so", "poly_so", "due", "row_so", "many_so", "total_so", "sums_so", "own", "k"]) (fA K) (e__law_right Γ) (f__law_right c) sc__law_right (by decide) ?_
  intro cdv A outer s0 H E ta hr hf
  exact (xss_cons (xasg (xtup (xa_cons (xtup (xa_cons (xi 1) (xa_cons (xtup (xa_cons (xi 0) xa_nil)) (xa_cons (xtup xa_nil) xa_nil)))) (xa_cons (xcall Γ c__law_take h__law_take hr rfl (c.g 58 rfl) (f__law_take c).kp (b__law_take (f__law_take c)) (xa_cons (xv 0 rfl (.inl rfl)) (xa_cons (xi 13) xa_nil))) xa_nil))) (xg_tup (xgs_cons (xg_name 1 sc__law_right.nd rfl (.inl rfl)) (xgs_cons (xg_name 2 sc__law_right.nd rfl (.inr rfl)) xgs_nil)))) (xss_cons (xset 3 sc__law_right.nd rfl (.inl rfl) (xopE os_add (xOE (xopE os_mul (xOE (xtup (xa_cons (xtup (xa_cons (xi 0) (xa_cons (xi 1) xa_nil))) xa_nil))) (xOE (xv 2 rfl (.inr (.inl rfl)))))) (xOE (xtup (xa_cons (xtup (xa_cons (xi 1) (xa_cons (xi 1) xa_nil))) xa_nil))))) (xss_cons (xset 4 sc__law_right.nd rfl (.inl rfl) (xcall Γ c__law_ways h__law_ways hr rfl (c.g 67 rfl) (f__law_ways c).kp (b__law_ways (f__law_ways c)) (xa_cons (xv 2 rfl (.inr (.inl rfl))) xa_nil))) (xss_cons (xif' (xt_not (xt_tru (xOE (xcall Γ c__law_same h__law_same hr rfl (c.g 60 rfl) (f__law_same c).kp (b__law_same (f__law_same c)) (xa_cons (xEN (xlst (xa_cons (xcall Γ c_poly_shares h_poly_shares hr rfl (c.g 42 rfl) (f_poly_shares c).kp (b_poly_shares (f_poly_shares c)) (xa_cons (xv 1 rfl (.inl rfl)) (xa_cons (xv 3 rfl (.inl rfl)) xa_nil))) (xa_cons (xcall Γ c_whole_shares h_whole_shares hr rfl (c.g 56 rfl) (f_whole_shares c).kp (b_whole_shares (f_whole_shares c)) (xa_cons (xv 1 rfl (.inl rfl)) (xa_cons (xv 3 rfl (.inl rfl)) xa_nil))) (xa_cons (xcall Γ c_shares_sum h_shares_sum hr rfl (c.g 43 rfl) (f_shares_sum c).kp (b_shares_sum (f_shares_sum c)) (xa_cons (xv 1 rfl (.inl rfl)) (xa_cons (xbt RE.back cs_tuple rfl (c.b 76 rfl) (by decide +kernel) (xa_consO (xOE (xEN (xcomp [9] sc__law_right.nd (xiG (xi_seq (xv 4 rfl (.inl rfl)))) (blkOk_by (own := [("own", 9)]) (by kernel_rfl)) rfl (fun _ _ _ _ _ => (xg_name 9 sc__law_right.nd rfl (.inl rfl))) (fun _ _ _ _ _ => xts_nil) (fun _ _ _ _ _ => (xtup (xa_cons (xv 9 rfl (.inl rfl)) (xa_cons (xi 1) xa_nil))))))) xa_nil)) xa_nil))) xa_nil))))) (xa_cons (xEN (xlst (xa_cons (xbt RE.back cs_tuple rfl (c.b 76 rfl) (by decide +kernel) (xa_consO (xOE (xEN (xcomp [9] sc__law_right.nd (xiG (xi_seq (xv 4 rfl (.inl rfl)))) (blkOk_by (own := [("own", 9)]) (by kernel_rfl)) rfl (fun _ _ _ _ _ => (xg_name 9 sc__law_right.nd rfl (.inl rfl))) (fun _ _ _ _ _ => xts_nil) (fun _ _ _ _ _ => (xtup (xa_cons (xv 9 rfl (.inl rfl)) (xa_cons (xi 1) xa_nil))))))) xa_nil)) (xa_cons (xbt RE.back cs_tuple rfl (c.b 76 rfl) (by decide +kernel) (xa_consO (xOE (xv 4 rfl (.inl rfl))) xa_nil)) (xa_cons (xv 3 rfl (.inl rfl)) xa_nil))))) xa_nil)))))) (xss_cons (xret (xb false)) xss_nil) xss_nil) (xss_cons (xset 5 sc__law_right.nd rfl (.inl rfl) (xcall Γ c_poly_row h_poly_row hr rfl (c.g 52 rfl) (f_poly_row c).kp (b_poly_row (f_poly_row c)) (xa_cons (xv 3 rfl (.inl rfl)) (xa_cons (xi 0) (xa_cons (xopE os_add (xOE (xv 2 rfl (.inr (.inl rfl)))) (xOE (xi 1))) xa_nil))))) (xss_cons (xif' (PW.pt (xw_or (xt_cmp os_ne (xOE (xv 5 rfl (.inl rfl))) (xOE (xbt RE.back cs_tuple rfl (c.b 76 rfl) (by decide +kernel) (xa_consO (xOE (xEN (xcomp [10] sc__law_right.nd (xiG (xi_range1 rfl (c.b 78 rfl) (xa_consO (xOE (xopE os_add (xOE (xv 2 rfl (.inr (.inl rfl)))) (xOE (xi 1)))) xa_nil))) (blkOk_by (own := [("k", 10)]) (by kernel_rfl)) rfl (fun _ _ _ _ _ => (xg_name 10 sc__law_right.nd rfl (.inl rfl))) (fun _ _ _ _ _ => xts_nil) (fun _ _ _ _ _ => (xtup (xa_cons (xcall Γ c__law_size h__law_size hr rfl (c.g 66 rfl) (f__law_size c).kp (b__law_size (f__law_size c)) (xa_cons (xv 10 rfl (.inl rfl)) (xa_cons (xv 2 rfl (.inr (.inl rfl))) xa_nil))) (xa_cons (xi 1) xa_nil))))))) xa_nil)))) (xw_or (xt_cmp os_ne (xOE (xcall Γ c_row_gaps h_row_gaps hr rfl (c.g 50 rfl) (f_row_gaps c).kp (b_row_gaps (f_row_gaps c)) (xa_cons (xv 5 rfl (.inl rfl)) xa_nil))) (xOE (xbt RE.back cs_tuple rfl (c.b 76 rfl) (by decide +kernel) (xa_consO (xOE (xEN (xcomp [9] sc__law_right.nd (xiG (xi_seq (xv 4 rfl (.inl rfl)))) (blkOk_by (own := [("own", 9)]) (by kernel_rfl)) rfl (fun _ _ _ _ _ => (xg_name 9 sc__law_right.nd rfl (.inl rfl))) (fun _ _ _ _ _ => xts_nil) (fun _ _ _ _ _ => (xtup (xa_cons (xv 9 rfl (.inl rfl)) (xa_cons (xi 1) xa_nil))))))) xa_nil)))) (xw_or1 (xt_cmp os_ne (xOE (xcall Γ c_row_poly h_row_poly hr rfl (c.g 51 rfl) (f_row_poly c).kp (b_row_poly (f_row_poly c)) (xa_cons (xv 5 rfl (.inl rfl)) xa_nil))) (xOE (xv 3 rfl (.inl rfl)))))))) (xss_cons (xret (xb false)) xss_nil) xss_nil) (xss_cons (xset 6 sc__law_right.nd rfl (.inl rfl) (xcall Γ c__law_take h__law_take hr rfl (c.g 58 rfl) (f__law_take c).kp (b__law_take (f__law_take c)) (xa_cons (xv 0 rfl (.inl rfl)) (xa_cons (xi 20) xa_nil)))) (xss_cons (xset 7 sc__law_right.nd rfl (.inl rfl) (xcall Γ c_sum_poly h_sum_poly hr rfl (c.g 53 rfl) (f_sum_poly c).kp (b_sum_poly (f_sum_poly c)) (xa_cons (xv 3 rfl (.inl rfl)) xa_nil))) (xss_cons (xset 8 sc__law_right.nd rfl (.inl rfl) (xbf RE.back cs_sum rfl (c.b 85 rfl) (by decide +kernel) (xa_consO (xOE (xEN (xcomp [10] sc__law_right.nd (xiG (xi_range1 rfl (c.b 78 rfl) (xa_consO (xOE (xopE os_add (xOE (xv 6 rfl (.inl rfl))) (xOE (xi 1)))) xa_nil))) (blkOk_by (own := [("k", 10)]) (by kernel_rfl)) rfl (fun _ _ _ _ _ => (xg_name 10 sc__law_right.nd rfl (.inl rfl))) (fun _ _ _ _ _ => xts_nil) (fun _ _ _ _ _ => (xcall Γ c__law_size h__law_size hr rfl (c.g 66 rfl) (f__law_size c).kp (b__law_size (f__law_size c)) (xa_cons (xv 10 rfl (.inl rfl)) (xa_cons (xv 2 rfl (.inr (.inl rfl))) xa_nil))))))) xa_nil))) (xss_cons (xif' (PW.pt (xw_or (xt_cmp os_ne (xOE (xcall Γ c_stretch_sum h_stretch_sum hr rfl (c.g 54 rfl) (f_stretch_sum c).kp (b_stretch_sum (f_stretch_sum c)) (xa_cons (xv 3 rfl (.inl rfl)) (xa_cons (xi 0) (xa_cons (xv 6 rfl (.inl rfl)) xa_nil))))) (xOE (xtup (xa_cons (xv 8 rfl (.inl rfl)) (xa_cons (xi 1) xa_nil))))) (xw_or1 (xt_cmp os_ne (xOE (xcall Γ c__law_value h__law_value hr rfl (c.g 65 rfl) (f__law_value c).kp (b__law_value (f__law_value c)) (xa_cons (xv 7 rfl (.inl rfl)) (xa_cons (xopE os_add (xOE (xv 6 rfl (.inl rfl))) (xOE (xi 1))) xa_nil)))) (xOE (xtup (xa_cons (xv 8 rfl (.inl rfl)) (xa_cons (xi 1) xa_nil)))))))) (xss_cons (xret (xb false)) xss_nil) xss_nil) (xss_cons (xret (xand (xcmp os_eq (xOE (xcall Γ c_poly_shares h_poly_shares hr rfl (c.g 42 rfl) (f_poly_shares c).kp (b_poly_shares (f_poly_shares c)) (xa_cons (xv 1 rfl (.inl rfl)) (xa_cons (xv 7 rfl (.inl rfl)) xa_nil)))) (xOE (xopE os_add (xOE (xtup (xa_cons (xtup (xa_cons (xi 0) (xa_cons (xi 1) xa_nil))) xa_nil))) (xOE (xbt RE.back cs_tuple rfl (c.b 76 rfl) (by decide +kernel) (xa_consO (xOE (xEN (xcomp [9] sc__law_right.nd (xiG (xi_seq (xv 4 rfl (.inl rfl)))) (blkOk_by (own := [("own", 9)]) (by kernel_rfl)) rfl (fun _ _ _ _ _ => (xg_name 9 sc__law_right.nd rfl (.inl rfl))) (fun _ _ _ _ _ => xts_nil) (fun _ _ _ _ _ => (xtup (xa_cons (xv 9 rfl (.inl rfl)) (xa_cons (xi 1) xa_nil))))))) xa_nil)))))) (xoneN (xcmp os_eq (xOE (xix (xOE (xv 7 rfl (.inl rfl))) (xOE (xun us_neg (xOE (xi 1)))))) (xOE (xtup (xa_cons (xi 1) (xa_cons (xopE os_add (xOE (xv 2 rfl (.inr (.inl rfl)))) (xOE (xi 1))) xa_nil)))))))) xss_nil)))))))))))
end
end NfLaw

namespace NfLaw
open PySem PySem.Spec PyProof.Rows L2 Nf
section
variable {P : Program} {w : World} {K : PySem.W.Frag} {mg : PySem.Str → Option Value} {base : Heap} {k : Nat}
def e_tin (Γ : Gam) : E := (eCall Γ c__law_box (aCons (eCall Γ c__law_cells (aCons (eVar 0) (aCons (eC (.int 1)) aNil))) (aCons (eC (.int 0)) aNil)))
def e_all (Γ : Gam) : Nf.S := (sSeq (sRet (eB bAll (aCons (eComp (iRange1 (aCons (eC (.int 4)) aNil)) (Nf.gName 2) [2] Nf.tYes (eCall Γ c__law_right (aCons (eVar 1) aNil))) aNil))) sNil)
theorem sc_law : FnScope ["script", "tin", "lap"] ["script"] (defScope (top 91)) := ⟨rfl, rfl, rfl, by decide +kernel, rfl, by decide +kernel, by decide +kernel⟩
theorem f_law (c : Cn fa fn tu K mg) : FunD K "law" "law" (defArgs (top 91)) (defBody (top 91)) (defScope (top 91)) [] [] (He.ga K "law") (fdOf K (He.ga K "law")) := c.f 69 (d := d_law) rfl
theorem k_law (c : Cn fa fn tu K mg) (Γ : Gam) (h__law_box : FO P w K mg base k "_law_box" ["script", "k"] (Γ c__law_box)) (h__law_cells : FO P w K mg base k "_law_cells" ["script", "most_so"] (Γ c__law_cells)) (h__law_right : FO P w K mg base k "_law_right" ["tin"] (Γ c__law_right)) : FnOk P w K mg base CX0 (k + 1) (He.ga K "law") (fdOf K (He.ga K "law")) ["script"] (spLaw K (lawRun (e_tin Γ) (e_all Γ) 3)) := by
  refine fokLaw (N := ["script", "tin", "lap"]) (fA K) (e_tin Γ) (e_all Γ) (f_law c) sc_law (by decide) ?_
  intro cdv A outer s0 H E hr hf
  haveI := hf none
  refine ⟨rd ⟨K, none, fA K⟩ W0 (RE ⟨K, none, fA K⟩) (e_tin Γ), ps_set sc_law.nd rfl (.inr rfl) (xcall Γ c__law_box h__law_box hr rfl (c.g 57 rfl) (f__law_box c).kp (b__law_box (f__law_box c)) (xa_cons (xcall Γ c__law_cells h__law_cells hr rfl (c.g 59 rfl) (f__law_cells c).kp (b__law_cells (f__law_cells c)) (xa_cons (xv 0 rfl (.inl rfl)) (xa_cons (xi 1) xa_nil))) (xa_cons (xi 0) xa_nil))), fun σ H Q h => h, ?_⟩
  intro ta
  haveI := hf ta
  exact (xss_cons (xret (xbf RE.back cs_all rfl (c.b 71 rfl) (by decide +kernel) (xa_consO (xOE (xEN (xcomp [2] sc_law.nd (xiG (xi_range1 rfl (c.b 78 rfl) (xa_consO (xOE (xi 4)) xa_nil))) (blkOk_by (own := [("lap", 2)]) (by kernel_rfl)) rfl (fun _ _ _ _ _ => (xg_name 2 sc_law.nd rfl (.inl rfl))) (fun _ _ _ _ _ => xts_nil) (fun _ _ _ _ _ => (xcall Γ c__law_right h__law_right hr rfl (c.g 68 rfl) (f__law_right c).kp (b__law_right (f__law_right c)) (xa_cons (xv 1 rfl (.inr (.inl rfl))) xa_nil)))))) xa_nil))) xss_nil)
def r_is_number : List Val → M Val := runDef 1 1 (e_is_number (gam []))
abbrev g_is_number : List Val → M Val := r_is_number
def r_is_within : List Val → M Val := runDef 3 3 (e_is_within (gam [(c_is_number, g_is_number)]))
abbrev g_is_within : List Val → M Val := r_is_within
def r_sure_within : List Val → M Val := runDef 3 3 (e_sure_within (gam [(c_is_within, g_is_within)]))
abbrev g_sure_within : List Val → M Val := r_sure_within
def r_is_long : List Val → M Val := runDef 2 2 (e_is_long (gam []))
abbrev g_is_long : List Val → M Val := r_is_long
def r_are_numbers : List Val → M Val := runDef 1 2 (e_are_numbers (gam [(c_is_number, g_is_number)]))
abbrev g_are_numbers : List Val → M Val := r_are_numbers
def r_ascends : List Val → M Val := runDef 1 3 (e_ascends (gam []))
abbrev g_ascends : List Val → M Val := r_ascends
def r_tupled : Nat → List Val → M Val
  | 0 => fun _ _ => .bad
  | j + 1 => runDef 1 2 (e_tupled (gam ((c_tupled, r_tupled j) :: [])))
def g_tupled : List Val → M Val := r_tupled 8
def r_common_of : List Val → M Val := runDef 2 2 (e_common_of (gam []))
abbrev g_common_of : List Val → M Val := gcdV
theorem m_common_of (args : List Val) (t : Tin) (h : gcdV args t ≠ .bad) : r_common_of args t = gcdV args t := by
  unfold gcdV at h ⊢
  split at h
  · rename_i a b
    split at h
    · rename_i hb
      obtain ⟨g, hg, hv⟩ := gcd_loop 4000 a b fuel t hb.1 hb.2 (by decide)
      have e0 : env0 2 [Val.int a, Val.int b] = ev a b := rfl
      simp only [r_common_of, runDef, List.length_cons, List.length_nil, if_true, e0]
      rw [if_pos hb]
      unfold e_common_of
      simp only [sSeq, sWhile]
      rw [hg]
      simp [Nf.eVar, Nf.eOwn, Nf.eC, Nf.eOp, Nf.eUn, Nf.aNil, Nf.aCons, Nf.eTup, Nf.eLst, Nf.eB, Nf.eCall, Nf.eIf, Nf.eTin, Nf.tru, Nf.eAnd, Nf.eOr, Nf.eNot, Nf.tTru, Nf.tBl, Nf.tAnd, Nf.tOr, Nf.tNot, Nf.tYes, Nf.gName, Nf.gsL, Nf.gTup, Nf.sNil, Nf.sSeq, Nf.sBad, Nf.sBreak, Nf.sCont, Nf.frzAll, Nf.sRet, Nf.sIf, Nf.sAsg, Nf.sAsgO, Nf.putAll, Nf.sPar, Nf.sDrop, Nf.ownL, Nf.putL, Nf.sApp, Nf.sSet, Nf.sTin, Nf.env0, Nf.runDef, Nf.oAdd, Nf.oSub, Nf.oMul, Nf.oDiv, Nf.oMod, Nf.uNeg, Nf.cNe, Nf.cEq, Nf.cLt, Nf.cLe, Nf.cGt, Nf.cGe, Nf.Val.data, Nf.dataL, Nf.Val.depth, Nf.depthL, Nf.veq, Nf.veqL, Nf.oIx, Nf.ixOf, Nf.bLen, Nf.bAbs, Nf.bInt, Nf.iSeq, Nf.items, Nf.gam, ev]
      split <;> omega
    · exact absurd rfl h
  · exact absurd rfl h

def r_least_of : List Val → M Val := runDef 2 2 (e_least_of (gam [(c_common_of, g_common_of)]))
abbrev g_least_of : List Val → M Val := leastV
theorem m_least_of (args : List Val) (t : Tin) (h : leastV args t ≠ .bad) : r_least_of args t = leastV args t := by
  unfold leastV at h ⊢
  split at h
  · rename_i a b
    split at h
    · rename_i hb
      rw [if_pos hb]
      simp only [Bool.and_eq_true, pos_iff] at hb
      obtain ⟨⟨h1, h2⟩, h3⟩ := hb
      have h4 : b < 2 ^ 4000 := Int.lt_trans (sm_lt h2) (Int.pow_lt_pow_of_lt (by decide) (by decide))
      have h0 := gcd_pos (a := a) h1
      have h5 := gcd_log (a := a) h1 h4
      have e1 : gcdV [.int a, .int b] t = .ok (.int (Int.gcd a b)) t := if_pos ⟨Int.le_of_lt h1, h4⟩
      refine runDef_rt rfl (sSeq_rt ?_)
      simp only [sRet, frzAll, env0, List.map_cons, List.map_nil, List.length_cons, List.length_nil, List.append_nil, List.replicate, Nat.sub_self, Option.map_some, eCall, gam, if_true, aCons, aNil, eOp, eVar, List.getElem?_cons_zero, List.getElem?_cons_succ, Res.bind_ok, Res.bindN_ok, e1, oDiv, h0, h5, ne_eq, not_false_eq_true, and_self, oMul, sm_bits h3 h2, Res.toS_ok]
    · exact absurd rfl h
  · exact absurd rfl h

def r_slim : List Val → M Val := runDef 2 3 (e_slim (gam [(c_common_of, g_common_of)]))
abbrev g_slim : List Val → M Val := slimV
theorem m_slim (args : List Val) (t : Tin) (h : slimV args t ≠ .bad) : r_slim args t = slimV args t := by
  unfold slimV at h ⊢
  split at h
  · rename_i a b
    split at h
    · rename_i hb
      rw [if_pos hb]
      have h0 := gcd_pos (a := a) hb.1
      have h1 := gcd_log (a := a) hb.1 hb.2
      have h2 : (0 : Int) ≤ b ∧ b < 2 ^ 4000 := ⟨Int.le_of_lt hb.1, hb.2⟩
      have e1 : gcdV [.int a, .int b] t = .ok (.int (Int.gcd a b)) t := if_pos h2
      refine runDef_rt rfl ?_
      refine (sSeq_nx (e' := [some (false, .int a), some (false, .int b), some (false, .int (Int.gcd a b))]) (t' := t) ?_).trans ?_
      · simp [Nf.eVar, Nf.eOwn, Nf.eC, Nf.eOp, Nf.eUn, Nf.aNil, Nf.aCons, Nf.eTup, Nf.eLst, Nf.eB, Nf.eCall, Nf.eIf, Nf.eTin, Nf.tru, Nf.eAnd, Nf.eOr, Nf.eNot, Nf.tTru, Nf.tBl, Nf.tAnd, Nf.tOr, Nf.tNot, Nf.tYes, Nf.gName, Nf.gsL, Nf.gTup, Nf.sNil, Nf.sSeq, Nf.sBad, Nf.sBreak, Nf.sCont, Nf.frzAll, Nf.sRet, Nf.sIf, Nf.sAsg, Nf.sAsgO, Nf.putAll, Nf.sPar, Nf.sDrop, Nf.ownL, Nf.putL, Nf.sApp, Nf.sSet, Nf.sTin, Nf.env0, Nf.runDef, Nf.oAdd, Nf.oSub, Nf.oMul, Nf.oDiv, Nf.oMod, Nf.uNeg, Nf.cNe, Nf.cEq, Nf.cLt, Nf.cLe, Nf.cGt, Nf.cGe, Nf.Val.data, Nf.dataL, Nf.Val.depth, Nf.depthL, Nf.veq, Nf.veqL, Nf.oIx, Nf.ixOf, Nf.bLen, Nf.bAbs, Nf.bInt, Nf.iSeq, Nf.items, Nf.gam, hb.1, e1]
      · refine sSeq_rt ?_
        simp only [sRet, frzAll, List.map_cons, List.map_nil, Option.map_some, eTup, aCons, eOp, eVar, List.getElem?_cons_zero, List.getElem?_cons_succ, Res.bind_ok, oDiv, h0, h1, ne_eq, not_false_eq_true, and_self, if_true, aNil, List.length_cons, List.length_nil]
        rfl
    · exact absurd rfl h
  · exact absurd rfl h

def r_plus : List Val → M Val := runDef 2 2 (e_plus (gam [(c_slim, g_slim)]))
abbrev g_plus : List Val → M Val := r_plus
def r_times : List Val → M Val := runDef 2 2 (e_times (gam [(c_slim, g_slim)]))
abbrev g_times : List Val → M Val := timesV
theorem m_times (args : List Val) (t : Tin) (h : timesV args t ≠ .bad) : r_times args t = timesV args t := by
  unfold timesV at h ⊢
  split at h
  · rename_i a b c d
    split at h
    · rename_i hb
      rw [if_pos hb]
      obtain ⟨h1, h2, h3, h4, h5, h6⟩ := prodOk_iff hb
      have e1 : slimV [.int (a * c), .int (b * d)] t = .ok (pr (slimF (a * c) (b * d))) t := if_pos (prod_lt h2 h4 h5 h6)
      refine runDef_rt rfl (sSeq_rt ?_)
      simp [Nf.eVar, Nf.eOwn, Nf.eC, Nf.eOp, Nf.eUn, Nf.aNil, Nf.aCons, Nf.eTup, Nf.eLst, Nf.eB, Nf.eCall, Nf.eIf, Nf.eTin, Nf.tru, Nf.eAnd, Nf.eOr, Nf.eNot, Nf.tTru, Nf.tBl, Nf.tAnd, Nf.tOr, Nf.tNot, Nf.tYes, Nf.gName, Nf.gsL, Nf.gTup, Nf.sNil, Nf.sSeq, Nf.sBad, Nf.sBreak, Nf.sCont, Nf.frzAll, Nf.sRet, Nf.sIf, Nf.sAsg, Nf.sAsgO, Nf.putAll, Nf.sPar, Nf.sDrop, Nf.ownL, Nf.putL, Nf.sApp, Nf.sSet, Nf.sTin, Nf.env0, Nf.runDef, Nf.oAdd, Nf.oSub, Nf.oMul, Nf.oDiv, Nf.oMod, Nf.uNeg, Nf.cNe, Nf.cEq, Nf.cLt, Nf.cLe, Nf.cGt, Nf.cGe, Nf.Val.data, Nf.dataL, Nf.Val.depth, Nf.depthL, Nf.veq, Nf.veqL, Nf.oIx, Nf.ixOf, Nf.bLen, Nf.bAbs, Nf.bInt, Nf.iSeq, Nf.items, Nf.gam, sm_bits h1 h3, sm_bits h2 h4, e1]
    · exact absurd rfl h
  · exact absurd rfl h

def r_is_fraction : List Val → M Val := runDef 1 1 (e_is_fraction (gam [(c_is_long, g_is_long), (c_are_numbers, g_are_numbers), (c_common_of, g_common_of)]))
abbrev g_is_fraction : List Val → M Val := r_is_fraction
def r_primes_of : List Val → M Val := runDef 1 4 (e_primes_of (gam []))
abbrev g_primes_of : List Val → M Val := r_primes_of
def r_back_by : List Val → M Val := runDef 2 7 (e_back_by (gam []))
abbrev g_back_by : List Val → M Val := r_back_by
def r_joined_rest : List Val → M Val := runDef 4 4 (e_joined_rest (gam [(c_back_by, g_back_by)]))
abbrev g_joined_rest : List Val → M Val := r_joined_rest
def r_told_set : List Val → M Val := runDef 3 6 (e_told_set (gam []))
abbrev g_told_set : List Val → M Val := r_told_set
def r_is_told : List Val → M Val := runDef 1 1 (e_is_told (gam [(c_is_long, g_is_long), (c_are_numbers, g_are_numbers)]))
abbrev g_is_told : List Val → M Val := r_is_told
def r_is_set : List Val → M Val := runDef 1 1 (e_is_set (gam [(c_ascends, g_ascends), (c_is_told, g_is_told), (c_told_set, g_told_set)]))
abbrev g_is_set : List Val → M Val := r_is_set
def r_sure_set : List Val → M Val := runDef 1 3 (e_sure_set (gam [(c_tupled, g_tupled), (c_is_set, g_is_set)]))
abbrev g_sure_set : List Val → M Val := r_sure_set
def r_parts_of : List Val → M Val := runDef 2 8 (e_parts_of (gam []))
abbrev g_parts_of : List Val → M Val := r_parts_of
def r_factorial_power : List Val → M Val := runDef 2 3 (e_factorial_power (gam []))
abbrev g_factorial_power : List Val → M Val := r_factorial_power
def r_digit_of : List Val → M Val := runDef 3 5 (e_digit_of (gam []))
abbrev g_digit_of : List Val → M Val := r_digit_of
def r_row_of : Nat → List Val → M Val
  | 0 => fun _ _ => .bad
  | j + 1 => runDef 5 15 (e_row_of (gam ((c_row_of, r_row_of j) :: [(c_factorial_power, g_factorial_power), (c_digit_of, g_digit_of)])))
def g_row_of : List Val → M Val := r_row_of 8
def r_order_row : List Val → M Val := runDef 3 3 (e_order_row (gam [(c_row_of, g_row_of), (c_parts_of, g_parts_of)]))
abbrev g_order_row : List Val → M Val := r_order_row
def r_powers_row : List Val → M Val := runDef 3 4 (e_powers_row (gam [(c_order_row, g_order_row)]))
abbrev g_powers_row : List Val → M Val := r_powers_row
def r_some_members : List Val → M Val := runDef 2 3 (e_some_members (gam []))
abbrev g_some_members : List Val → M Val := r_some_members
def r_primes_in : List Val → M Val := runDef 2 8 (e_primes_in (gam [(c_some_members, g_some_members), (c_primes_of, g_primes_of)]))
abbrev g_primes_in : List Val → M Val := r_primes_in
def r_factorial_by : List Val → M Val := runDef 3 6 (e_factorial_by (gam [(c_powers_row, g_powers_row)]))
abbrev g_factorial_by : List Val → M Val := r_factorial_by
def r_is_poly : List Val → M Val := runDef 1 2 (e_is_poly (gam [(c_is_fraction, g_is_fraction)]))
abbrev g_is_poly : List Val → M Val := r_is_poly
def r_sure_poly : List Val → M Val := runDef 1 3 (e_sure_poly (gam [(c_tupled, g_tupled), (c_is_poly, g_is_poly)]))
abbrev g_sure_poly : List Val → M Val := r_sure_poly
def r_bare : List Val → M Val := runDef 1 2 (e_bare (gam []))
abbrev g_bare : List Val → M Val := r_bare
def r_plus_in : List Val → M Val := runDef 2 7 (e_plus_in (gam [(c_bare, g_bare), (c_plus, g_plus)]))
abbrev g_plus_in : List Val → M Val := r_plus_in
def r_scaled_in : List Val → M Val := runDef 2 3 (e_scaled_in (gam [(c_bare, g_bare), (c_times, g_times)]))
abbrev g_scaled_in : List Val → M Val := r_scaled_in
def r_whole_row : List Val → M Val := runDef 1 3 (e_whole_row (gam [(c_least_of, g_least_of)]))
abbrev g_whole_row : List Val → M Val := wholeV
theorem whole_for : ∀ (qs : List (Int × Int)) (p o : Option (Bool × Val)) (u v : Int) (t : Tin), lcmO qs u = some v →
    ∃ o', forLoop (Nf.gName 2) (sSeq (sAsg (Nf.gName 1) (eCall (gam [(c_least_of, g_least_of)]) c_least_of (aCons (eVar 1) (aCons (eOp oIx (eVar 2) (eC (.int 1))) aNil)))) sNil) (qs.map pr) [p, some (false, .int u), o] t = .nx [p, some (false, .int v), o'] t
  | [], p, o, u, v, t, h => by
    rw [lcmO_nil] at h; cases h
    exact ⟨o, rfl⟩
  | q :: qs, p, o, u, v, t, h => by
    rw [lcmO_cons] at h
    split at h
    · rename_i hb
      obtain ⟨o', ih⟩ := whole_for qs p (some (false, pr q)) _ v t h
      refine ⟨o', ?_⟩
      exact (forLoop_nx rfl ((sSeq_nx (sAsg_ok (eCall_ok (aCons_ok rfl (aCons_ok (eOp_ok rfl rfl rfl) rfl)) (leastV_O hb)) rfl)).trans rfl)).trans ih
    · cases h
theorem whole_comp : ∀ (qs : List (Int × Int)) (p : Option (Bool × Val)) (u : Int) (l : List Int) (t : Tin), rowO u qs = some l →
    compLoop (Nf.gName 2) Nf.tYes (eOp oMul (eOp oIx (eVar 2) (eC (.int 0))) (eOp oDiv (eVar 1) (eOp oIx (eVar 2) (eC (.int 1))))) [p, some (false, .int u), none] (qs.map pr) t = .ok (l.map Val.int) t
  | [], p, u, l, t, h => by cases h; rfl
  | q :: qs, p, u, l, t, h => by
    rw [rowO_cons] at h
    split at h
    · rename_i hb
      cases e : rowO u qs with
      | none => rw [e] at h; cases h
      | some l' =>
        rw [e] at h
        cases h
        simp only [Bool.and_eq_true, pos_iff] at hb
        obtain ⟨⟨⟨h1, h2⟩, h3⟩, h4⟩ := hb
        have d1 : oDiv (.int u) (.int q.2) = some (.int (u.fdiv q.2)) := by
          simp only [oDiv]
          rw [if_pos ⟨Int.ne_of_gt h1, Nat.lt_trans (sm_log h2) (by decide)⟩]
        have d2 : oMul (.int q.1) (.int (u.fdiv q.2)) = some (.int (q.1 * u.fdiv q.2)) := by
          simp only [oMul]
          rw [if_pos (sm_bits h3 h4)]
        exact compLoop_yes rfl (eOp_ok (eOp_ok rfl rfl rfl) (eOp_ok rfl (eOp_ok rfl rfl rfl) d1) d2) (whole_comp qs p u l' t e)
    · cases h

theorem m_whole_row (args : List Val) (t : Tin) (h : wholeV args t ≠ .bad) : r_whole_row args t = wholeV args t := by
  unfold wholeV at h ⊢
  split at h
  · rename_i ps
    cases e1 : pairsOf ps with
    | none => rw [e1] at h; exact absurd rfl h
    | some qs =>
      rw [e1] at h
      simp only at h ⊢
      by_cases hl : qs.length ≤ lim
      case neg => rw [if_neg hl] at h; exact absurd rfl h
      rw [if_pos hl] at h ⊢
      unfold wholeO at h ⊢
      cases e2 : lcmO qs 1 with
      | none => rw [e2] at h; exact absurd rfl h
      | some u =>
        rw [e2] at h
        simp only at h ⊢
        cases e3 : rowO u qs with
        | none => rw [e3] at h; exact absurd rfl h
        | some l =>
          simp only
          have e4 := pairsOf_eq e1
          subst e4
          obtain ⟨o', hf⟩ := whole_for qs (some (false, .tup (qs.map pr))) none 1 u t e2
          have hc := whole_comp qs (some (false, .tup (qs.map pr))) u l t e3
          refine runDef_rt rfl ?_
          refine (sSeq_nx (e' := [some (false, .tup (qs.map pr)), some (false, .int 1), none]) (t' := t) rfl).trans ?_
          refine (sSeq_nx (sFor_ok rfl hf)).trans ?_
          exact sSeq_ret (eTup_ok (vs := [.int u, .lst (l.map Val.int)]) (aCons_ok rfl (aCons_ok (eComp_ok rfl (by simpa using hl) hc) rfl)) (show 2 ≤ lim by decide))
  · exact absurd rfl h

def r_value_in : List Val → M Val := runDef 2 6 (e_value_in (gam [(c_whole_row, g_whole_row), (c_slim, g_slim)]))
abbrev g_value_in : List Val → M Val := valueInV
theorem horn_for : ∀ (l : List Int) (p u w o : Option (Bool × Val)) (n q r : Int) (t : Tin), hornO n l q = some r →
    ∃ o', forLoop (Nf.gName 5) (sSeq (sAsg (Nf.gName 4) (eOp oAdd (eOp oMul (eVar 4) (eVar 1)) (eVar 5))) sNil) (l.map Val.int) [p, some (false, .int n), u, w, some (false, .int q), o] t = .nx [p, some (false, .int n), u, w, some (false, .int r), o'] t
  | [], p, u, w, o, n, q, r, t, h => by
    rw [hornO_nil] at h; cases h
    exact ⟨o, rfl⟩
  | a :: l, p, u, w, o, n, q, r, t, h => by
    rw [hornO_cons] at h
    split at h
    · rename_i hb
      obtain ⟨o', ih⟩ := horn_for l p u w (some (false, .int a)) n _ r t h
      refine ⟨o', ?_⟩
      simp only [Bool.and_eq_true] at hb
      have d2 : oMul (.int q) (.int n) = some (.int (q * n)) := by
        simp only [oMul]
        rw [if_pos (sm_bits hb.1 hb.2)]
      exact (forLoop_nx rfl ((sSeq_nx (sAsg_ok (eOp_ok (eOp_ok rfl rfl d2) rfl rfl) rfl)).trans rfl)).trans ih
    · cases h

theorem m_value_in (args : List Val) (t : Tin) (h : valueInV args t ≠ .bad) : r_value_in args t = valueInV args t := by
  unfold valueInV at h ⊢
  split at h
  · rename_i ps n
    cases e1 : pairsOf ps with
    | none => rw [e1] at h; exact absurd rfl h
    | some qs =>
      rw [e1] at h
      simp only at h ⊢
      cases e2 : (if qs.length ≤ lim then wholeO qs else none) with
      | none => rw [e2] at h; exact absurd rfl h
      | some ul =>
        obtain ⟨u, l⟩ := ul
        rw [e2] at h
        simp only at h ⊢
        cases e3 : hornO n l.reverse 0 with
        | none => rw [e3] at h; exact absurd rfl h
        | some x =>
          rw [e3] at h
          simp only at h ⊢
          by_cases hb : 0 < u ∧ u < 2 ^ 4000
          case neg => rw [if_neg hb] at h; exact absurd rfl h
          rw [if_pos hb]
          have f1 : wholeV [.tup ps] t = .ok (.tup [.int u, .lst (l.map Val.int)]) t := by
            unfold wholeV
            simp only [e1, e2]
          have f2 : slimV [.int x, .int u] t = .ok (pr (slimF x u)) t := if_pos hb
          obtain ⟨o', hf⟩ := horn_for l.reverse (some (false, .tup ps)) (some (false, .int u)) (some (false, .lst (l.map Val.int))) none n 0 x t e3
          refine runDef_rt rfl ?_
          refine (sSeq_nx (e' := [some (false, .tup ps), some (false, .int n), some (false, .int u), some (false, .lst (l.map Val.int)), none, none]) (t' := t) (sAsg_ok (eCall_ok (aCons_ok rfl rfl) f1) rfl)).trans ?_
          refine (sSeq_nx (e' := [some (false, .tup ps), some (false, .int n), some (false, .int u), some (false, .lst (l.map Val.int)), some (false, .int 0), none]) (t' := t) rfl).trans ?_
          refine (sSeq_nx (sFor_ok (xs := l.reverse.map Val.int) (by rw [List.map_reverse]; rfl) hf)).trans ?_
          exact sSeq_ret (eCall_ok (aCons_ok rfl (aCons_ok rfl rfl)) f2)
  · exact absurd rfl h

def r_roots_product : List Val → M Val := runDef 1 5 (e_roots_product (gam []))
abbrev g_roots_product : List Val → M Val := r_roots_product
def r_places_in : List Val → M Val := runDef 3 11 (e_places_in (gam [(c_order_row, g_order_row), (c_joined_rest, g_joined_rest)]))
abbrev g_places_in : List Val → M Val := r_places_in
def r_base_in : List Val → M Val := runDef 3 4 (e_base_in (gam [(c_factorial_by, g_factorial_by), (c_scaled_in, g_scaled_in), (c_roots_product, g_roots_product), (c_places_in, g_places_in)]))
abbrev g_base_in : List Val → M Val := r_base_in
def r_shares_in : List Val → M Val := runDef 2 8 (e_shares_in (gam [(c_primes_in, g_primes_in), (c_base_in, g_base_in), (c_times, g_times), (c_plus_in, g_plus_in), (c_scaled_in, g_scaled_in)]))
abbrev g_shares_in : List Val → M Val := r_shares_in
def r_sum_in : List Val → M Val := runDef 2 6 (e_sum_in (gam [(c_primes_in, g_primes_in), (c_plus_in, g_plus_in), (c_scaled_in, g_scaled_in), (c_base_in, g_base_in)]))
abbrev g_sum_in : List Val → M Val := r_sum_in
def r_sure_low : List Val → M Val := runDef 1 2 (e_sure_low (gam [(c_sure_poly, g_sure_poly)]))
abbrev g_sure_low : List Val → M Val := r_sure_low
def r_poly_shares : List Val → M Val := runDef 2 4 (e_poly_shares (gam [(c_sure_set, g_sure_set), (c_sure_low, g_sure_low), (c_shares_in, g_shares_in)]))
abbrev g_poly_shares : List Val → M Val := r_poly_shares
def r_shares_sum : List Val → M Val := runDef 2 5 (e_shares_sum (gam [(c_sum_in, g_sum_in), (c_sure_set, g_sure_set), (c_tupled, g_tupled), (c_bare, g_bare), (c_is_fraction, g_is_fraction)]))
abbrev g_shares_sum : List Val → M Val := r_shares_sum
def r_lowered : List Val → M Val := runDef 2 6 (e_lowered (gam [(c_roots_product, g_roots_product), (c_plus_in, g_plus_in), (c_scaled_in, g_scaled_in)]))
abbrev g_lowered : List Val → M Val := r_lowered
def r_sure_values : List Val → M Val := runDef 1 3 (e_sure_values (gam [(c_tupled, g_tupled), (c_is_fraction, g_is_fraction)]))
abbrev g_sure_values : List Val → M Val := r_sure_values
def r_gaps_of : List Val → M Val := runDef 1 5 (e_gaps_of (gam [(c_plus, g_plus)]))
abbrev g_gaps_of : List Val → M Val := r_gaps_of
def r_chosen_in : List Val → M Val := runDef 1 3 (e_chosen_in (gam [(c_scaled_in, g_scaled_in), (c_roots_product, g_roots_product)]))
abbrev g_chosen_in : List Val → M Val := r_chosen_in
def r_by_gaps : List Val → M Val := runDef 1 4 (e_by_gaps (gam [(c_plus_in, g_plus_in), (c_scaled_in, g_scaled_in), (c_chosen_in, g_chosen_in)]))
abbrev g_by_gaps : List Val → M Val := r_by_gaps
def r_sum_of : List Val → M Val := runDef 1 3 (e_sum_of (gam [(c_gaps_of, g_gaps_of), (c_by_gaps, g_by_gaps), (c_value_in, g_value_in)]))
abbrev g_sum_of : List Val → M Val := r_sum_of
def r_row_gaps : List Val → M Val := runDef 1 1 (e_row_gaps (gam [(c_gaps_of, g_gaps_of), (c_sure_values, g_sure_values)]))
abbrev g_row_gaps : List Val → M Val := r_row_gaps
def r_row_poly : List Val → M Val := runDef 1 1 (e_row_poly (gam [(c_by_gaps, g_by_gaps), (c_gaps_of, g_gaps_of), (c_sure_values, g_sure_values)]))
abbrev g_row_poly : List Val → M Val := r_row_poly
def r_poly_row : List Val → M Val := runDef 3 7 (e_poly_row (gam [(c_sure_poly, g_sure_poly), (c_sure_within, g_sure_within), (c_value_in, g_value_in)]))
abbrev g_poly_row : List Val → M Val := r_poly_row
def r_sum_poly : List Val → M Val := runDef 1 2 (e_sum_poly (gam [(c_sure_poly, g_sure_poly), (c_sum_of, g_sum_of)]))
abbrev g_sum_poly : List Val → M Val := r_sum_poly
def r_stretch_sum : List Val → M Val := runDef 3 9 (e_stretch_sum (gam [(c_sure_poly, g_sure_poly), (c_sum_of, g_sum_of), (c_plus, g_plus), (c_sure_within, g_sure_within), (c_value_in, g_value_in)]))
abbrev g_stretch_sum : List Val → M Val := r_stretch_sum
def r_whole_shares_in : List Val → M Val := runDef 2 4 (e_whole_shares_in (gam [(c_shares_in, g_shares_in), (c_lowered, g_lowered)]))
abbrev g_whole_shares_in : List Val → M Val := r_whole_shares_in
def r_whole_shares : List Val → M Val := runDef 2 4 (e_whole_shares (gam [(c_sure_set, g_sure_set), (c_whole_shares_in, g_whole_shares_in), (c_sure_low, g_sure_low)]))
abbrev g_whole_shares : List Val → M Val := r_whole_shares
def r__law_box : List Val → M Val := runDef 2 3 (e__law_box (gam []))
abbrev g__law_box : List Val → M Val := r__law_box
def r__law_take : List Val → M Val := runDef 2 6 (e__law_take (gam []))
abbrev g__law_take : List Val → M Val := r__law_take
def r__law_cells : List Val → M Val := runDef 2 6 (e__law_cells (gam []))
abbrev g__law_cells : List Val → M Val := r__law_cells
def r__law_same : Nat → List Val → M Val
  | 0 => fun _ _ => .bad
  | j + 1 => runDef 2 4 (e__law_same (gam ((c__law_same, r__law_same j) :: [])))
def g__law_same : List Val → M Val := r__law_same 8
def r__law_gcd : List Val → M Val := runDef 2 3 (e__law_gcd (gam []))
abbrev g__law_gcd : List Val → M Val := gcdL
theorem m__law_gcd (args : List Val) (t : Tin) (h : gcdL args t ≠ .bad) : r__law_gcd args t = gcdL args t := by
  unfold gcdL at h ⊢
  split at h
  · rename_i a b
    split at h
    · rename_i hb
      obtain ⟨o', hg⟩ := gcd_for 4000 (if a < 0 then -a else a) (if b < 0 then -b else b) none (rangeL 0 9000) t (by split <;> omega) (by split <;> omega)
        (by have h2 : (b.natAbs : Int) < ((2 ^ 4000 : Nat) : Int) := by exact_mod_cast hb
            have h3 : ((2 ^ 4000 : Nat) : Int) = (2 : Int) ^ 4000 := by simp
            rw [h3] at h2
            split <;> omega) (by simp [rangeL])
      rw [if_pos hb]
      have e0 : env0 3 [Val.int (if a < 0 then -a else a), Val.int (if b < 0 then -b else b)] = lv (if a < 0 then -a else a) (if b < 0 then -b else b) none := rfl
      have e1 : Int.gcd (if a < 0 then -a else a) (if b < 0 then -b else b) = Int.gcd a b := by
        split <;> split <;> simp
      have e3 : (sPar [(0, false), (1, false)] (aCons (eB bAbs (aCons (eVar 0) aNil)) (aCons (eB bAbs (aCons (eVar 1) aNil)) aNil))) (env0 3 [Val.int a, Val.int b]) t = .nx (lv (if a < 0 then -a else a) (if b < 0 then -b else b) none) t := by
        simp [Nf.eVar, Nf.eOwn, Nf.eC, Nf.eOp, Nf.eUn, Nf.aNil, Nf.aCons, Nf.eTup, Nf.eLst, Nf.eB, Nf.eCall, Nf.eIf, Nf.eTin, Nf.tru, Nf.eAnd, Nf.eOr, Nf.eNot, Nf.tTru, Nf.tBl, Nf.tAnd, Nf.tOr, Nf.tNot, Nf.tYes, Nf.gName, Nf.gsL, Nf.gTup, Nf.sNil, Nf.sSeq, Nf.sBad, Nf.sBreak, Nf.sCont, Nf.frzAll, Nf.sRet, Nf.sIf, Nf.sAsg, Nf.sAsgO, Nf.putAll, Nf.sPar, Nf.sDrop, Nf.ownL, Nf.putL, Nf.sApp, Nf.sSet, Nf.sTin, Nf.env0, Nf.runDef, Nf.oAdd, Nf.oSub, Nf.oMul, Nf.oDiv, Nf.oMod, Nf.uNeg, Nf.cNe, Nf.cEq, Nf.cLt, Nf.cLe, Nf.cGt, Nf.cGe, Nf.Val.data, Nf.dataL, Nf.Val.depth, Nf.depthL, Nf.veq, Nf.veqL, Nf.oIx, Nf.ixOf, Nf.bLen, Nf.bAbs, Nf.bInt, Nf.iSeq, Nf.items, Nf.gam, lv]
      have e4 : (sFor (iRange1 (aCons (eC (.int 9000)) aNil)) (Nf.gName 2) gcdBody) (lv (if a < 0 then -a else a) (if b < 0 then -b else b) none) t = .nx (lv (Int.gcd (if a < 0 then -a else a) (if b < 0 then -b else b)) 0 o') t := by
        rw [← hg]
        rfl
      refine runDef_rt rfl ?_
      refine (sSeq_nx e3).trans ((sSeq_nx e4).trans ?_)
      rw [e1]
      rfl
    · exact absurd rfl h
  · exact absurd rfl h

def r__law_slim : List Val → M Val := runDef 2 3 (e__law_slim (gam [(c__law_gcd, g__law_gcd)]))
abbrev g__law_slim : List Val → M Val := slimV
theorem m__law_slim (args : List Val) (t : Tin) (h : slimV args t ≠ .bad) : r__law_slim args t = slimV args t := by
  unfold slimV at h ⊢
  split at h
  · rename_i a b
    split at h
    · rename_i hb
      rw [if_pos hb]
      have h0 := gcd_pos (a := a) hb.1
      have h1 := gcd_log (a := a) hb.1 hb.2
      have h2 : b.natAbs < 2 ^ 4000 := by
        have h7 : ((b.natAbs : Nat) : Int) < ((2 ^ 4000 : Nat) : Int) := by
          have h3 : ((2 ^ 4000 : Nat) : Int) = (2 : Int) ^ 4000 := by simp
          rw [h3]; omega
        exact_mod_cast h7
      have e1 : gcdL [.int a, .int b] t = .ok (.int (Int.gcd a b)) t := if_pos h2
      refine runDef_rt rfl ?_
      refine (sSeq_nx (e' := [some (false, .int a), some (false, .int b), some (false, .int (Int.gcd a b))]) (t' := t) ?_).trans ?_
      · simp [Nf.eVar, Nf.eOwn, Nf.eC, Nf.eOp, Nf.eUn, Nf.aNil, Nf.aCons, Nf.eTup, Nf.eLst, Nf.eB, Nf.eCall, Nf.eIf, Nf.eTin, Nf.tru, Nf.eAnd, Nf.eOr, Nf.eNot, Nf.tTru, Nf.tBl, Nf.tAnd, Nf.tOr, Nf.tNot, Nf.tYes, Nf.gName, Nf.gsL, Nf.gTup, Nf.sNil, Nf.sSeq, Nf.sBad, Nf.sBreak, Nf.sCont, Nf.frzAll, Nf.sRet, Nf.sIf, Nf.sAsg, Nf.sAsgO, Nf.putAll, Nf.sPar, Nf.sDrop, Nf.ownL, Nf.putL, Nf.sApp, Nf.sSet, Nf.sTin, Nf.env0, Nf.runDef, Nf.oAdd, Nf.oSub, Nf.oMul, Nf.oDiv, Nf.oMod, Nf.uNeg, Nf.cNe, Nf.cEq, Nf.cLt, Nf.cLe, Nf.cGt, Nf.cGe, Nf.Val.data, Nf.dataL, Nf.Val.depth, Nf.depthL, Nf.veq, Nf.veqL, Nf.oIx, Nf.ixOf, Nf.bLen, Nf.bAbs, Nf.bInt, Nf.iSeq, Nf.items, Nf.gam, e1]
      · refine sSeq_rt ?_
        simp only [sRet, frzAll, List.map_cons, List.map_nil, Option.map_some, eIf, tBl, eC, cGt, eTup, aCons, eOp, eVar, List.getElem?_cons_zero, List.getElem?_cons_succ, Res.bind_ok, oDiv, h0, h1, hb.1, decide_true, ne_eq, not_false_eq_true, and_self, if_true, aNil, List.length_cons, List.length_nil]
        rfl
    · exact absurd rfl h
  · exact absurd rfl h

def r__law_plus : List Val → M Val := runDef 2 2 (e__law_plus (gam [(c__law_slim, g__law_slim)]))
abbrev g__law_plus : List Val → M Val := plusV
theorem m__law_plus (args : List Val) (t : Tin) (h : plusV args t ≠ .bad) : r__law_plus args t = plusV args t := by
  unfold plusV at h ⊢
  split at h
  · rename_i a b c d
    split at h
    · rename_i hb
      rw [if_pos hb]
      obtain ⟨h1, h2, h3, h4, h5, h6⟩ := prodOk_iff hb
      have e1 : slimV [.int (a * d + c * b), .int (b * d)] t = .ok (pr (slimF (a * d + c * b) (b * d))) t := if_pos (prod_lt h2 h4 h5 h6)
      refine runDef_rt rfl (sSeq_rt ?_)
      simp [Nf.eVar, Nf.eOwn, Nf.eC, Nf.eOp, Nf.eUn, Nf.aNil, Nf.aCons, Nf.eTup, Nf.eLst, Nf.eB, Nf.eCall, Nf.eIf, Nf.eTin, Nf.tru, Nf.eAnd, Nf.eOr, Nf.eNot, Nf.tTru, Nf.tBl, Nf.tAnd, Nf.tOr, Nf.tNot, Nf.tYes, Nf.gName, Nf.gsL, Nf.gTup, Nf.sNil, Nf.sSeq, Nf.sBad, Nf.sBreak, Nf.sCont, Nf.frzAll, Nf.sRet, Nf.sIf, Nf.sAsg, Nf.sAsgO, Nf.putAll, Nf.sPar, Nf.sDrop, Nf.ownL, Nf.putL, Nf.sApp, Nf.sSet, Nf.sTin, Nf.env0, Nf.runDef, Nf.oAdd, Nf.oSub, Nf.oMul, Nf.oDiv, Nf.oMod, Nf.uNeg, Nf.cNe, Nf.cEq, Nf.cLt, Nf.cLe, Nf.cGt, Nf.cGe, Nf.Val.data, Nf.dataL, Nf.Val.depth, Nf.depthL, Nf.veq, Nf.veqL, Nf.oIx, Nf.ixOf, Nf.bLen, Nf.bAbs, Nf.bInt, Nf.iSeq, Nf.items, Nf.gam, sm_bits h1 h4, sm_bits h3 h2, sm_bits h2 h4, e1]
    · exact absurd rfl h
  · exact absurd rfl h

def r__law_times : List Val → M Val := runDef 2 2 (e__law_times (gam [(c__law_slim, g__law_slim)]))
abbrev g__law_times : List Val → M Val := timesV
theorem m__law_times (args : List Val) (t : Tin) (h : timesV args t ≠ .bad) : r__law_times args t = timesV args t := by
  unfold timesV at h ⊢
  split at h
  · rename_i a b c d
    split at h
    · rename_i hb
      rw [if_pos hb]
      obtain ⟨h1, h2, h3, h4, h5, h6⟩ := prodOk_iff hb
      have e1 : slimV [.int (a * c), .int (b * d)] t = .ok (pr (slimF (a * c) (b * d))) t := if_pos (prod_lt h2 h4 h5 h6)
      refine runDef_rt rfl (sSeq_rt ?_)
      simp [Nf.eVar, Nf.eOwn, Nf.eC, Nf.eOp, Nf.eUn, Nf.aNil, Nf.aCons, Nf.eTup, Nf.eLst, Nf.eB, Nf.eCall, Nf.eIf, Nf.eTin, Nf.tru, Nf.eAnd, Nf.eOr, Nf.eNot, Nf.tTru, Nf.tBl, Nf.tAnd, Nf.tOr, Nf.tNot, Nf.tYes, Nf.gName, Nf.gsL, Nf.gTup, Nf.sNil, Nf.sSeq, Nf.sBad, Nf.sBreak, Nf.sCont, Nf.frzAll, Nf.sRet, Nf.sIf, Nf.sAsg, Nf.sAsgO, Nf.putAll, Nf.sPar, Nf.sDrop, Nf.ownL, Nf.putL, Nf.sApp, Nf.sSet, Nf.sTin, Nf.env0, Nf.runDef, Nf.oAdd, Nf.oSub, Nf.oMul, Nf.oDiv, Nf.oMod, Nf.uNeg, Nf.cNe, Nf.cEq, Nf.cLt, Nf.cLe, Nf.cGt, Nf.cGe, Nf.Val.data, Nf.dataL, Nf.Val.depth, Nf.depthL, Nf.veq, Nf.veqL, Nf.oIx, Nf.ixOf, Nf.bLen, Nf.bAbs, Nf.bInt, Nf.iSeq, Nf.items, Nf.gam, sm_bits h1 h3, sm_bits h2 h4, e1]
    · exact absurd rfl h
  · exact absurd rfl h

def r__law_value : List Val → M Val := runDef 2 4 (e__law_value (gam [(c__law_plus, g__law_plus), (c__law_times, g__law_times)]))
abbrev g__law_value : List Val → M Val := valueV
theorem value_for : ∀ (qs : List (Int × Int)) (n : Int) (p o : Option (Bool × Val)) (q r : Int × Int) (t : Tin), valueO n qs q = some r →
    ∃ o', forLoop (Nf.gName 3) (sSeq (sAsg (Nf.gName 2) (eCall (gam [(c__law_plus, g__law_plus), (c__law_times, g__law_times)]) c__law_plus (aCons (eCall (gam [(c__law_plus, g__law_plus), (c__law_times, g__law_times)]) c__law_times (aCons (eVar 2) (aCons (eTup (aCons (eVar 1) (aCons (eC (.int 1)) aNil))) aNil))) (aCons (eVar 3) aNil)))) sNil) (qs.map pr) [p, some (false, .int n), some (false, pr q), o] t = .nx [p, some (false, .int n), some (false, pr r), o'] t
  | [], n, p, o, q, r, t, h => by
    rw [valueO_nil] at h; cases h
    exact ⟨o, rfl⟩
  | a :: qs, n, p, o, q, r, t, h => by
    rw [valueO_cons] at h
    cases e1 : timesO q (n, 1) with
    | none => rw [e1] at h; cases h
    | some q1 =>
      rw [e1] at h
      simp only at h
      cases e2 : plusO q1 a with
      | none => rw [e2] at h; cases h
      | some q2 =>
        rw [e2] at h
        simp only at h
        obtain ⟨o', ih⟩ := value_for qs n p (some (false, pr a)) q2 r t h
        refine ⟨o', ?_⟩
        have f1 : timesV [pr q, .tup [.int n, .int 1]] t = .ok (pr q1) t := timesV_O e1
        have f2 : plusV [pr q1, pr a] t = .ok (pr q2) t := plusV_O e2
        exact (forLoop_nx rfl ((sSeq_nx (sAsg_ok (eCall_ok (aCons_ok (eCall_ok (aCons_ok rfl (aCons_ok (eTup_ok (vs := [.int n, .int 1]) rfl (show 2 ≤ lim by decide)) rfl)) f1) (aCons_ok rfl rfl)) f2) rfl)).trans rfl)).trans ih

theorem m__law_value (args : List Val) (t : Tin) (h : valueV args t ≠ .bad) : r__law_value args t = valueV args t := by
  unfold valueV at h ⊢
  split at h
  · rename_i ps n
    cases e1 : pairsOf ps with
    | none => rw [e1] at h; exact absurd rfl h
    | some qs =>
      rw [e1] at h
      simp only at h ⊢
      cases e2 : valueO n qs.reverse (0, 1) with
      | none => rw [e2] at h; exact absurd rfl h
      | some r =>
        simp only
        have e3 := pairsOf_eq e1
        subst e3
        obtain ⟨o', hf⟩ := value_for qs.reverse n (some (false, .tup (qs.map pr))) none (0, 1) r t e2
        refine runDef_rt rfl ?_
        refine (sSeq_nx (e' := [some (false, .tup (qs.map pr)), some (false, .int n), some (false, pr (0, 1)), none]) (t' := t) (by simp [Nf.eVar, Nf.eOwn, Nf.eC, Nf.eOp, Nf.eUn, Nf.aNil, Nf.aCons, Nf.eTup, Nf.eLst, Nf.eB, Nf.eCall, Nf.eIf, Nf.eTin, Nf.tru, Nf.eAnd, Nf.eOr, Nf.eNot, Nf.tTru, Nf.tBl, Nf.tAnd, Nf.tOr, Nf.tNot, Nf.tYes, Nf.gName, Nf.gsL, Nf.gTup, Nf.sNil, Nf.sSeq, Nf.sBad, Nf.sBreak, Nf.sCont, Nf.frzAll, Nf.sRet, Nf.sIf, Nf.sAsg, Nf.sAsgO, Nf.putAll, Nf.sPar, Nf.sDrop, Nf.ownL, Nf.putL, Nf.sApp, Nf.sSet, Nf.sTin, Nf.env0, Nf.runDef, Nf.oAdd, Nf.oSub, Nf.oMul, Nf.oDiv, Nf.oMod, Nf.uNeg, Nf.cNe, Nf.cEq, Nf.cLt, Nf.cLe, Nf.cGt, Nf.cGe, Nf.Val.data, Nf.dataL, Nf.Val.depth, Nf.depthL, Nf.veq, Nf.veqL, Nf.oIx, Nf.ixOf, Nf.bLen, Nf.bAbs, Nf.bInt, Nf.iSeq, Nf.items, Nf.gam, lim])).trans ?_
        refine (sSeq_nx (e' := [some (false, .tup (qs.map pr)), some (false, .int n), some (false, pr r), o']) (t' := t) ?_).trans ?_
        · rw [← hf, List.map_reverse]
          rfl
        · refine sSeq_rt ?_
          simp [Nf.eVar, Nf.eOwn, Nf.eC, Nf.eOp, Nf.eUn, Nf.aNil, Nf.aCons, Nf.eTup, Nf.eLst, Nf.eB, Nf.eCall, Nf.eIf, Nf.eTin, Nf.tru, Nf.eAnd, Nf.eOr, Nf.eNot, Nf.tTru, Nf.tBl, Nf.tAnd, Nf.tOr, Nf.tNot, Nf.tYes, Nf.gName, Nf.gsL, Nf.gTup, Nf.sNil, Nf.sSeq, Nf.sBad, Nf.sBreak, Nf.sCont, Nf.frzAll, Nf.sRet, Nf.sIf, Nf.sAsg, Nf.sAsgO, Nf.putAll, Nf.sPar, Nf.sDrop, Nf.ownL, Nf.putL, Nf.sApp, Nf.sSet, Nf.sTin, Nf.env0, Nf.runDef, Nf.oAdd, Nf.oSub, Nf.oMul, Nf.oDiv, Nf.oMod, Nf.uNeg, Nf.cNe, Nf.cEq, Nf.cLt, Nf.cLe, Nf.cGt, Nf.cGe, Nf.Val.data, Nf.dataL, Nf.Val.depth, Nf.depthL, Nf.veq, Nf.veqL, Nf.oIx, Nf.ixOf, Nf.bLen, Nf.bAbs, Nf.bInt, Nf.iSeq, Nf.items, Nf.gam, sRet]
  · exact absurd rfl h

def r__law_size : List Val → M Val := runDef 2 4 (e__law_size (gam []))
abbrev g__law_size : List Val → M Val := r__law_size
def r__law_ways : List Val → M Val := runDef 1 6 (e__law_ways (gam []))
abbrev g__law_ways : List Val → M Val := r__law_ways
def r__law_right : List Val → M Val := runDef 1 11 (e__law_right (gam [(c__law_ways, g__law_ways), (c_poly_row, g_poly_row), (c__law_take, g__law_take), (c_sum_poly, g_sum_poly), (c__law_same, g__law_same), (c_row_gaps, g_row_gaps), (c_row_poly, g_row_poly), (c__law_size, g__law_size), (c_stretch_sum, g_stretch_sum), (c__law_value, g__law_value), (c_poly_shares, g_poly_shares), (c_whole_shares, g_whole_shares), (c_shares_sum, g_shares_sum)]))
abbrev g__law_right : List Val → M Val := r__law_right
theorem o_is_number (c : Cn fa fn tu K mg) : FO P w K mg base 1 "is_number" ["thing"] g_is_number := k_is_number (k := 0) c (gam [])
theorem o_is_within (c : Cn fa fn tu K mg) : FO P w K mg base 2 "is_within" ["thing", "least", "most"] g_is_within := k_is_within (k := 1) c (gam [(c_is_number, g_is_number)]) ((o_is_number c).mono (by decide))
theorem o_sure_within (c : Cn fa fn tu K mg) : FO P w K mg base 3 "sure_within" ["thing", "least", "most"] g_sure_within := k_sure_within (k := 2) c (gam [(c_is_within, g_is_within)]) ((o_is_within c).mono (by decide))
theorem o_is_long (c : Cn fa fn tu K mg) : FO P w K mg base 1 "is_long" ["thing", "length"] g_is_long := k_is_long (k := 0) c (gam [])
theorem o_are_numbers (c : Cn fa fn tu K mg) : FO P w K mg base 2 "are_numbers" ["thing"] g_are_numbers := k_are_numbers (k := 1) c (gam [(c_is_number, g_is_number)]) ((o_is_number c).mono (by decide))
theorem o_ascends (c : Cn fa fn tu K mg) : FO P w K mg base 1 "ascends" ["row"] g_ascends := k_ascends (k := 0) c (gam [])
theorem or_tupled (c : Cn fa fn tu K mg) : ∀ j, FO P w K mg base (1 + j) "tupled" ["value"] (r_tupled j)
  | 0 => ⟨fun vs H Q E h => by obtain ⟨_, _, _, _, _, _, h⟩ := h; exact h.elim, fun A outer s H args us vs Q E _ _ _ _ h => by obtain ⟨_, _, _, _, _, _, h⟩ := h; exact h.elim⟩
  | j + 1 => k_tupled (k := 1 + j) c (gam ((c_tupled, r_tupled j) :: [])) (or_tupled c j)
theorem o_tupled (c : Cn fa fn tu K mg) : FO P w K mg base 9 "tupled" ["value"] g_tupled := or_tupled c 8
theorem o_common_of (c : Cn fa fn tu K mg) : FO P w K mg base 1 "common_of" ["one", "other"] g_common_of := FnOk.imp (k_common_of (k := 0) c (gam [])) (spOf_imp m_common_of)
theorem o_least_of (c : Cn fa fn tu K mg) : FO P w K mg base 2 "least_of" ["one", "other"] g_least_of := FnOk.imp (k_least_of (k := 1) c (gam [(c_common_of, g_common_of)]) ((o_common_of c).mono (by decide))) (spOf_imp m_least_of)
theorem o_slim (c : Cn fa fn tu K mg) : FO P w K mg base 2 "slim" ["over", "under"] g_slim := FnOk.imp (k_slim (k := 1) c (gam [(c_common_of, g_common_of)]) ((o_common_of c).mono (by decide))) (spOf_imp m_slim)
theorem o_plus (c : Cn fa fn tu K mg) : FO P w K mg base 3 "plus" ["one", "other"] g_plus := k_plus (k := 2) c (gam [(c_slim, g_slim)]) ((o_slim c).mono (by decide))
theorem o_times (c : Cn fa fn tu K mg) : FO P w K mg base 3 "times" ["one", "other"] g_times := FnOk.imp (k_times (k := 2) c (gam [(c_slim, g_slim)]) ((o_slim c).mono (by decide))) (spOf_imp m_times)
theorem o_is_fraction (c : Cn fa fn tu K mg) : FO P w K mg base 3 "is_fraction" ["thing"] g_is_fraction := k_is_fraction (k := 2) c (gam [(c_is_long, g_is_long), (c_are_numbers, g_are_numbers), (c_common_of, g_common_of)]) ((o_is_long c).mono (by decide)) ((o_are_numbers c).mono (by decide)) ((o_common_of c).mono (by decide))
theorem o_primes_of (c : Cn fa fn tu K mg) : FO P w K mg base 1 "primes_of" ["number"] g_primes_of := k_primes_of (k := 0) c (gam [])
theorem o_back_by (c : Cn fa fn tu K mg) : FO P w K mg base 1 "back_by" ["number", "by"] g_back_by := k_back_by (k := 0) c (gam [])
theorem o_joined_rest (c : Cn fa fn tu K mg) : FO P w K mg base 2 "joined_rest" ["rest", "size", "other", "far"] g_joined_rest := k_joined_rest (k := 1) c (gam [(c_back_by, g_back_by)]) ((o_back_by c).mono (by decide))
theorem o_told_set (c : Cn fa fn tu K mg) : FO P w K mg base 1 "told_set" ["by", "rests", "more"] g_told_set := k_told_set (k := 0) c (gam [])
theorem o_is_told (c : Cn fa fn tu K mg) : FO P w K mg base 3 "is_told" ["thing"] g_is_told := k_is_told (k := 2) c (gam [(c_is_long, g_is_long), (c_are_numbers, g_are_numbers)]) ((o_is_long c).mono (by decide)) ((o_are_numbers c).mono (by decide))
theorem o_is_set (c : Cn fa fn tu K mg) : FO P w K mg base 4 "is_set" ["thing"] g_is_set := k_is_set (k := 3) c (gam [(c_ascends, g_ascends), (c_is_told, g_is_told), (c_told_set, g_told_set)]) ((o_is_told c).mono (by decide)) ((o_ascends c).mono (by decide)) ((o_told_set c).mono (by decide))
theorem o_sure_set (c : Cn fa fn tu K mg) : FO P w K mg base 10 "sure_set" ["value"] g_sure_set := k_sure_set (k := 9) c (gam [(c_tupled, g_tupled), (c_is_set, g_is_set)]) ((o_tupled c).mono (by decide)) ((o_is_set c).mono (by decide))
theorem o_parts_of (c : Cn fa fn tu K mg) : FO P w K mg base 1 "parts_of" ["own", "prime"] g_parts_of := k_parts_of (k := 0) c (gam [])
theorem o_factorial_power (c : Cn fa fn tu K mg) : FO P w K mg base 1 "factorial_power" ["number", "prime"] g_factorial_power := k_factorial_power (k := 0) c (gam [])
theorem o_digit_of (c : Cn fa fn tu K mg) : FO P w K mg base 1 "digit_of" ["number", "prime", "depth"] g_digit_of := k_digit_of (k := 0) c (gam [])
theorem or_row_of (c : Cn fa fn tu K mg) : ∀ j, FO P w K mg base (2 + j) "row_of" ["own", "parts", "prime", "depth", "many"] (r_row_of j)
  | 0 => ⟨fun vs H Q E h => by obtain ⟨_, _, _, _, _, _, h⟩ := h; exact h.elim, fun A outer s H args us vs Q E _ _ _ _ h => by obtain ⟨_, _, _, _, _, _, h⟩ := h; exact h.elim⟩
  | j + 1 => k_row_of (k := 2 + j) c (gam ((c_row_of, r_row_of j) :: [(c_factorial_power, g_factorial_power), (c_digit_of, g_digit_of)])) ((o_factorial_power c).mono (by omega)) ((o_digit_of c).mono (by omega)) (or_row_of c j)
theorem o_row_of (c : Cn fa fn tu K mg) : FO P w K mg base 10 "row_of" ["own", "parts", "prime", "depth", "many"] g_row_of := or_row_of c 8
theorem o_order_row (c : Cn fa fn tu K mg) : FO P w K mg base 11 "order_row" ["own", "prime", "many"] g_order_row := k_order_row (k := 10) c (gam [(c_row_of, g_row_of), (c_parts_of, g_parts_of)]) ((o_row_of c).mono (by decide)) ((o_parts_of c).mono (by decide))
theorem o_powers_row (c : Cn fa fn tu K mg) : FO P w K mg base 12 "powers_row" ["own", "prime", "many"] g_powers_row := k_powers_row (k := 11) c (gam [(c_order_row, g_order_row)]) ((o_order_row c).mono (by decide))
theorem o_some_members (c : Cn fa fn tu K mg) : FO P w K mg base 1 "some_members" ["own", "many"] g_some_members := k_some_members (k := 0) c (gam [])
theorem o_primes_in (c : Cn fa fn tu K mg) : FO P w K mg base 2 "primes_in" ["own", "number"] g_primes_in := k_primes_in (k := 1) c (gam [(c_some_members, g_some_members), (c_primes_of, g_primes_of)]) ((o_some_members c).mono (by decide)) ((o_primes_of c).mono (by decide))
theorem o_factorial_by (c : Cn fa fn tu K mg) : FO P w K mg base 13 "factorial_by" ["own", "number", "primes"] g_factorial_by := k_factorial_by (k := 12) c (gam [(c_powers_row, g_powers_row)]) ((o_powers_row c).mono (by decide))
theorem o_is_poly (c : Cn fa fn tu K mg) : FO P w K mg base 4 "is_poly" ["thing"] g_is_poly := k_is_poly (k := 3) c (gam [(c_is_fraction, g_is_fraction)]) ((o_is_fraction c).mono (by decide))
theorem o_sure_poly (c : Cn fa fn tu K mg) : FO P w K mg base 10 "sure_poly" ["value"] g_sure_poly := k_sure_poly (k := 9) c (gam [(c_tupled, g_tupled), (c_is_poly, g_is_poly)]) ((o_tupled c).mono (by decide)) ((o_is_poly c).mono (by decide))
theorem o_bare (c : Cn fa fn tu K mg) : FO P w K mg base 1 "bare" ["row"] g_bare := k_bare (k := 0) c (gam [])
theorem o_plus_in (c : Cn fa fn tu K mg) : FO P w K mg base 4 "plus_in" ["one", "other"] g_plus_in := k_plus_in (k := 3) c (gam [(c_bare, g_bare), (c_plus, g_plus)]) ((o_bare c).mono (by decide)) ((o_plus c).mono (by decide))
theorem o_scaled_in (c : Cn fa fn tu K mg) : FO P w K mg base 4 "scaled_in" ["poly", "by"] g_scaled_in := k_scaled_in (k := 3) c (gam [(c_bare, g_bare), (c_times, g_times)]) ((o_bare c).mono (by decide)) ((o_times c).mono (by decide))
theorem o_whole_row (c : Cn fa fn tu K mg) : FO P w K mg base 3 "whole_row" ["poly"] g_whole_row := FnOk.imp (k_whole_row (k := 2) c (gam [(c_least_of, g_least_of)]) ((o_least_of c).mono (by decide))) (spOf_imp m_whole_row)
theorem o_value_in (c : Cn fa fn tu K mg) : FO P w K mg base 4 "value_in" ["poly", "number"] g_value_in := FnOk.imp (k_value_in (k := 3) c (gam [(c_whole_row, g_whole_row), (c_slim, g_slim)]) ((o_whole_row c).mono (by decide)) ((o_slim c).mono (by decide))) (spOf_imp m_value_in)
theorem o_roots_product (c : Cn fa fn tu K mg) : FO P w K mg base 1 "roots_product" ["numbers"] g_roots_product := k_roots_product (k := 0) c (gam [])
theorem o_places_in (c : Cn fa fn tu K mg) : FO P w K mg base 12 "places_in" ["own", "number", "primes"] g_places_in := k_places_in (k := 11) c (gam [(c_order_row, g_order_row), (c_joined_rest, g_joined_rest)]) ((o_order_row c).mono (by decide)) ((o_joined_rest c).mono (by decide))
theorem o_base_in (c : Cn fa fn tu K mg) : FO P w K mg base 14 "base_in" ["own", "number", "primes"] g_base_in := k_base_in (k := 13) c (gam [(c_factorial_by, g_factorial_by), (c_scaled_in, g_scaled_in), (c_roots_product, g_roots_product), (c_places_in, g_places_in)]) ((o_factorial_by c).mono (by decide)) ((o_scaled_in c).mono (by decide)) ((o_roots_product c).mono (by decide)) ((o_places_in c).mono (by decide))
theorem o_shares_in (c : Cn fa fn tu K mg) : FO P w K mg base 15 "shares_in" ["own", "poly"] g_shares_in := k_shares_in (k := 14) c (gam [(c_primes_in, g_primes_in), (c_base_in, g_base_in), (c_times, g_times), (c_plus_in, g_plus_in), (c_scaled_in, g_scaled_in)]) ((o_primes_in c).mono (by decide)) ((o_base_in c).mono (by decide)) ((o_times c).mono (by decide)) ((o_plus_in c).mono (by decide)) ((o_scaled_in c).mono (by decide))
theorem o_sum_in (c : Cn fa fn tu K mg) : FO P w K mg base 15 "sum_in" ["own", "shares"] g_sum_in := k_sum_in (k := 14) c (gam [(c_primes_in, g_primes_in), (c_plus_in, g_plus_in), (c_scaled_in, g_scaled_in), (c_base_in, g_base_in)]) ((o_primes_in c).mono (by decide)) ((o_plus_in c).mono (by decide)) ((o_scaled_in c).mono (by decide)) ((o_base_in c).mono (by decide))
theorem o_sure_low (c : Cn fa fn tu K mg) : FO P w K mg base 11 "sure_low" ["poly"] g_sure_low := k_sure_low (k := 10) c (gam [(c_sure_poly, g_sure_poly)]) ((o_sure_poly c).mono (by decide))
theorem o_poly_shares (c : Cn fa fn tu K mg) : FO P w K mg base 16 "poly_shares" ["lot", "poly"] g_poly_shares := k_poly_shares (k := 15) c (gam [(c_sure_set, g_sure_set), (c_sure_low, g_sure_low), (c_shares_in, g_shares_in)]) ((o_sure_set c).mono (by decide)) ((o_sure_low c).mono (by decide)) ((o_shares_in c).mono (by decide))
theorem o_shares_sum (c : Cn fa fn tu K mg) : FO P w K mg base 16 "shares_sum" ["lot", "shares"] g_shares_sum := k_shares_sum (k := 15) c (gam [(c_sum_in, g_sum_in), (c_sure_set, g_sure_set), (c_tupled, g_tupled), (c_bare, g_bare), (c_is_fraction, g_is_fraction)]) ((o_tupled c).mono (by decide)) ((o_sure_set c).mono (by decide)) ((o_is_fraction c).mono (by decide)) ((o_bare c).mono (by decide)) ((o_sum_in c).mono (by decide))
theorem o_lowered (c : Cn fa fn tu K mg) : FO P w K mg base 5 "lowered" ["own", "poly"] g_lowered := k_lowered (k := 4) c (gam [(c_roots_product, g_roots_product), (c_plus_in, g_plus_in), (c_scaled_in, g_scaled_in)]) ((o_roots_product c).mono (by decide)) ((o_scaled_in c).mono (by decide)) ((o_plus_in c).mono (by decide))
theorem o_sure_values (c : Cn fa fn tu K mg) : FO P w K mg base 10 "sure_values" ["value"] g_sure_values := k_sure_values (k := 9) c (gam [(c_tupled, g_tupled), (c_is_fraction, g_is_fraction)]) ((o_tupled c).mono (by decide)) ((o_is_fraction c).mono (by decide))
theorem o_gaps_of (c : Cn fa fn tu K mg) : FO P w K mg base 4 "gaps_of" ["row"] g_gaps_of := k_gaps_of (k := 3) c (gam [(c_plus, g_plus)]) ((o_plus c).mono (by decide))
theorem o_chosen_in (c : Cn fa fn tu K mg) : FO P w K mg base 5 "chosen_in" ["number"] g_chosen_in := k_chosen_in (k := 4) c (gam [(c_scaled_in, g_scaled_in), (c_roots_product, g_roots_product)]) ((o_scaled_in c).mono (by decide)) ((o_roots_product c).mono (by decide))
theorem o_by_gaps (c : Cn fa fn tu K mg) : FO P w K mg base 6 "by_gaps" ["gaps"] g_by_gaps := k_by_gaps (k := 5) c (gam [(c_plus_in, g_plus_in), (c_scaled_in, g_scaled_in), (c_chosen_in, g_chosen_in)]) ((o_plus_in c).mono (by decide)) ((o_scaled_in c).mono (by decide)) ((o_chosen_in c).mono (by decide))
theorem o_sum_of (c : Cn fa fn tu K mg) : FO P w K mg base 7 "sum_of" ["poly"] g_sum_of := k_sum_of (k := 6) c (gam [(c_gaps_of, g_gaps_of), (c_by_gaps, g_by_gaps), (c_value_in, g_value_in)]) ((o_gaps_of c).mono (by decide)) ((o_value_in c).mono (by decide)) ((o_by_gaps c).mono (by decide))
theorem o_row_gaps (c : Cn fa fn tu K mg) : FO P w K mg base 11 "row_gaps" ["values"] g_row_gaps := k_row_gaps (k := 10) c (gam [(c_gaps_of, g_gaps_of), (c_sure_values, g_sure_values)]) ((o_gaps_of c).mono (by decide)) ((o_sure_values c).mono (by decide))
theorem o_row_poly (c : Cn fa fn tu K mg) : FO P w K mg base 11 "row_poly" ["values"] g_row_poly := k_row_poly (k := 10) c (gam [(c_by_gaps, g_by_gaps), (c_gaps_of, g_gaps_of), (c_sure_values, g_sure_values)]) ((o_by_gaps c).mono (by decide)) ((o_gaps_of c).mono (by decide)) ((o_sure_values c).mono (by decide))
theorem o_poly_row (c : Cn fa fn tu K mg) : FO P w K mg base 11 "poly_row" ["poly", "first", "many"] g_poly_row := k_poly_row (k := 10) c (gam [(c_sure_poly, g_sure_poly), (c_sure_within, g_sure_within), (c_value_in, g_value_in)]) ((o_sure_poly c).mono (by decide)) ((o_sure_within c).mono (by decide)) ((o_value_in c).mono (by decide))
theorem o_sum_poly (c : Cn fa fn tu K mg) : FO P w K mg base 11 "sum_poly" ["poly"] g_sum_poly := k_sum_poly (k := 10) c (gam [(c_sure_poly, g_sure_poly), (c_sum_of, g_sum_of)]) ((o_sure_poly c).mono (by decide)) ((o_sum_of c).mono (by decide))
theorem o_stretch_sum (c : Cn fa fn tu K mg) : FO P w K mg base 11 "stretch_sum" ["poly", "first", "last"] g_stretch_sum := k_stretch_sum (k := 10) c (gam [(c_sure_poly, g_sure_poly), (c_sum_of, g_sum_of), (c_plus, g_plus), (c_sure_within, g_sure_within), (c_value_in, g_value_in)]) ((o_sure_poly c).mono (by decide)) ((o_sure_within c).mono (by decide)) ((o_sum_of c).mono (by decide)) ((o_value_in c).mono (by decide)) ((o_plus c).mono (by decide))
theorem o_whole_shares_in (c : Cn fa fn tu K mg) : FO P w K mg base 16 "whole_shares_in" ["own", "poly"] g_whole_shares_in := k_whole_shares_in (k := 15) c (gam [(c_shares_in, g_shares_in), (c_lowered, g_lowered)]) ((o_shares_in c).mono (by decide)) ((o_lowered c).mono (by decide))
theorem o_whole_shares (c : Cn fa fn tu K mg) : FO P w K mg base 17 "whole_shares" ["lot", "poly"] g_whole_shares := k_whole_shares (k := 16) c (gam [(c_sure_set, g_sure_set), (c_whole_shares_in, g_whole_shares_in), (c_sure_low, g_sure_low)]) ((o_sure_set c).mono (by decide)) ((o_whole_shares_in c).mono (by decide)) ((o_sure_low c).mono (by decide))
theorem o__law_box (c : Cn fa fn tu K mg) : FO P w K mg base 1 "_law_box" ["script", "k"] g__law_box := k__law_box (k := 0) c (gam [])
theorem o__law_take (c : Cn fa fn tu K mg) : FO P w K mg base 1 "_law_take" ["tin", "below_so"] g__law_take := k__law_take (k := 0) c (gam [])
theorem o__law_cells (c : Cn fa fn tu K mg) : FO P w K mg base 1 "_law_cells" ["script", "most_so"] g__law_cells := k__law_cells (k := 0) c (gam [])
theorem or__law_same (c : Cn fa fn tu K mg) : ∀ j, FO P w K mg base (1 + j) "_law_same" ["got", "due"] (r__law_same j)
  | 0 => ⟨fun vs H Q E h => by obtain ⟨_, _, _, _, _, _, h⟩ := h; exact h.elim, fun A outer s H args us vs Q E _ _ _ _ h => by obtain ⟨_, _, _, _, _, _, h⟩ := h; exact h.elim⟩
  | j + 1 => k__law_same (k := 1 + j) c (gam ((c__law_same, r__law_same j) :: [])) (or__law_same c j)
theorem o__law_same (c : Cn fa fn tu K mg) : FO P w K mg base 9 "_law_same" ["got", "due"] g__law_same := or__law_same c 8
theorem o__law_gcd (c : Cn fa fn tu K mg) : FO P w K mg base 1 "_law_gcd" ["one", "two"] g__law_gcd := FnOk.imp (k__law_gcd (k := 0) c (gam [])) (spOf_imp m__law_gcd)
theorem o__law_slim (c : Cn fa fn tu K mg) : FO P w K mg base 2 "_law_slim" ["over", "under"] g__law_slim := FnOk.imp (k__law_slim (k := 1) c (gam [(c__law_gcd, g__law_gcd)]) ((o__law_gcd c).mono (by decide))) (spOf_imp m__law_slim)
theorem o__law_plus (c : Cn fa fn tu K mg) : FO P w K mg base 3 "_law_plus" ["one", "two"] g__law_plus := FnOk.imp (k__law_plus (k := 2) c (gam [(c__law_slim, g__law_slim)]) ((o__law_slim c).mono (by decide))) (spOf_imp m__law_plus)
theorem o__law_times (c : Cn fa fn tu K mg) : FO P w K mg base 3 "_law_times" ["one", "two"] g__law_times := FnOk.imp (k__law_times (k := 2) c (gam [(c__law_slim, g__law_slim)]) ((o__law_slim c).mono (by decide))) (spOf_imp m__law_times)
theorem o__law_value (c : Cn fa fn tu K mg) : FO P w K mg base 4 "_law_value" ["poly_so", "number_so"] g__law_value := FnOk.imp (k__law_value (k := 3) c (gam [(c__law_plus, g__law_plus), (c__law_times, g__law_times)]) ((o__law_plus c).mono (by decide)) ((o__law_times c).mono (by decide))) (spOf_imp m__law_value)
theorem o__law_size (c : Cn fa fn tu K mg) : FO P w K mg base 1 "_law_size" ["base_so", "many_so"] g__law_size := k__law_size (k := 0) c (gam [])
theorem o__law_ways (c : Cn fa fn tu K mg) : FO P w K mg base 1 "_law_ways" ["power_so"] g__law_ways := k__law_ways (k := 0) c (gam [])
theorem o__law_right (c : Cn fa fn tu K mg) : FO P w K mg base 18 "_law_right" ["tin"] g__law_right := k__law_right (k := 17) c (gam [(c__law_ways, g__law_ways), (c_poly_row, g_poly_row), (c__law_take, g__law_take), (c_sum_poly, g_sum_poly), (c__law_same, g__law_same), (c_row_gaps, g_row_gaps), (c_row_poly, g_row_poly), (c__law_size, g__law_size), (c_stretch_sum, g_stretch_sum), (c__law_value, g__law_value), (c_poly_shares, g_poly_shares), (c_whole_shares, g_whole_shares), (c_shares_sum, g_shares_sum)]) ((o__law_take c).mono (by decide)) ((o__law_ways c).mono (by decide)) ((o__law_same c).mono (by decide)) ((o_shares_sum c).mono (by decide)) ((o_whole_shares c).mono (by decide)) ((o_poly_shares c).mono (by decide)) ((o_poly_row c).mono (by decide)) ((o__law_size c).mono (by decide)) ((o_row_gaps c).mono (by decide)) ((o_row_poly c).mono (by decide)) ((o_sum_poly c).mono (by decide)) ((o_stretch_sum c).mono (by decide)) ((o__law_value c).mono (by decide))
abbrev GL : Gam := gam [(c__law_box, g__law_box), (c__law_cells, g__law_cells), (c__law_right, g__law_right)]
theorem o_law (c : Cn fa fn tu K mg) : FnOk P w K mg base CX0 19 (He.ga K "law") (fdOf K (He.ga K "law")) ["script"] (spLaw K (lawRun (e_tin GL) (e_all GL) 3)) := k_law (k := 18) c GL ((o__law_box c).mono (by decide)) ((o__law_cells c).mono (by decide)) ((o__law_right c).mono (by decide))
end
end NfLaw

namespace NfLaw
open PySem PySem.Spec PyProof.Rows L2 Nf
/-! ### the draws -/
theorem mul_ok {i j : Int} (h : bitsOk i j = true) : oMul (.int i) (.int j) = some (.int (i * j)) := by simp only [oMul]; rw [if_pos h]
theorem mod_ok {i j : Int} (h : j ≠ 0) : oMod (.int i) (.int j) = some (.int (i.fmod j)) := by simp only [oMod]; rw [if_pos h]
theorem div_ok {i j : Int} (h : j ≠ 0) (h2 : j.natAbs.log2 < 9000) : oDiv (.int i) (.int j) = some (.int (i.fdiv j)) := by simp only [oDiv]; rw [if_pos ⟨h, h2⟩]
theorem eB_ok {op : List Val → Option Val} {a : A} {env : Nf.Env} {t t1 : Tin} {vs : List Val} {v : Val} (h : a env t = .ok vs t1) (g : op vs = some v) : Nf.eB op a env t = .ok v t1 := by
  unfold Nf.eB; rw [h, Res.bind_ok, g]
theorem eUn_ok {op : Val → Option Val} {f : E} {env : Nf.Env} {t t1 : Tin} {v w : Val} (h : f env t = .ok v t1) (g : op v = some w) : Nf.eUn op f env t = .ok w t1 := by
  unfold Nf.eUn; rw [h, Res.bind_ok, g]
theorem sIf_t {c : Nf.T} {a b : Nf.S} {env : Nf.Env} {t t1 : Tin} (h : c env t = .ok true t1) : Nf.sIf c a b env t = a env t1 := by unfold Nf.sIf; rw [h]; rfl
theorem sIf_f {c : Nf.T} {a b : Nf.S} {env : Nf.Env} {t t1 : Tin} (h : c env t = .ok false t1) : Nf.sIf c a b env t = b env t1 := by unfold Nf.sIf; rw [h]; rfl
theorem natAbs_lt {x : Int} {n : Nat} (h : -((2 ^ n : Nat) : Int) < x) (h2 : x < ((2 ^ n : Nat) : Int)) : x.natAbs < 2 ^ n := by omega
theorem log_le {x : Int} {n : Nat} (h : x.natAbs < 2 ^ n) (hn : 0 < n) : x.natAbs.log2 < n := by
  by_cases e : x.natAbs = 0
  · rw [e]; exact hn
  · exact (Nat.log2_lt e).mpr h
theorem bits2 {x y : Int} {m n : Nat} (h : x.natAbs < 2 ^ m) (g : y.natAbs < 2 ^ n) (hm : 0 < m) (hn : 0 < n) (hs : m + n < 134000000) : bitsOk x y = true := by
  have h1 := log_le h hm
  have h2 := log_le g hn
  exact decide_eq_true (by omega)
structure Good (n : Nat) (t : Tin) : Prop where
  b0 : 0 ≤ t.b
  b1 : t.b < 4611686018427387904
  c0 : 0 ≤ t.c
  c1 : t.c + n ≤ 1000000
theorem take_ok {n : Nat} {t : Tin} {below : Int} (g : Good (n + 1) t) (h0 : 0 < below) (h1 : below < 1000000000000) : ∃ d t', g__law_take [.tin, .int below] t = .ok (.int d) t' ∧ 0 ≤ d ∧ d < below ∧ Good n t' := by
  obtain ⟨b0, b1, c0, c1⟩ := g
  have hb : below ≠ 0 := by omega
  have fm : ∀ x y : Int, 0 < y → 0 ≤ x.fmod y ∧ x.fmod y < y := fun x y hy => by
    rw [Int.fmod_eq_emod_of_nonneg x (Int.le_of_lt hy)]
    exact ⟨Int.emod_nonneg x (by omega), Int.emod_lt_of_pos x hy⟩
  by_cases ha : 0 < t.a
  · refine ⟨t.a.fmod below, { t with a := t.a.fdiv below }, ?_, (fm _ _ h0).1, (fm _ _ h0).2, ⟨b0, b1, c0, by simp at c1 ⊢; omega⟩⟩
    have hl : below.natAbs.log2 < 9000 := Nat.lt_of_lt_of_le (log_le (n := 40) (by omega) (by decide)) (by decide)
    have hc : tBl (eOp cGt (eTin 0 0) (eC (.int 0))) (env0 6 [.tin, .int below]) t = .ok true t := by
      show Res.ok (decide (0 < t.a)) t = _
      rw [decide_eq_true ha]
    refine runDef_rt rfl (sSeq_rt ?_)
    refine (sIf_t hc).trans ?_
    refine (sSeq_nx (sAsg_ok (eOp_ok (eB_ok (aCons_ok rfl rfl) rfl) rfl (mod_ok hb)) rfl)).trans ?_
    refine (sSeq_nx (e' := [some (false, .tin), some (false, .int below), some (false, .int (t.a.fmod below)), none, none, none]) (t' := { t with a := t.a.fdiv below }) ?_).trans rfl
    show (eOp oDiv (eTin 0 0) (eVar 1) _ t).toS _ = _
    rw [eOp_ok (z := .int (t.a.fdiv below)) (t2 := t) rfl rfl (div_ok hb hl)]
    rfl
  · have hc : tBl (eOp cGt (eTin 0 0) (eC (.int 0))) (env0 6 [.tin, .int below]) t = .ok false t := by
      show Res.ok (decide (0 < t.a)) t = _
      rw [decide_eq_false ha]
    have p62 : (4611686018427387904 : Int) = ((2 ^ 62 : Nat) : Int) := by decide
    have m1 : bitsOk 48271 (t.c + 1) = true := bits2 (m := 20) (n := 30) (by decide) (by simp at c1; omega) (by decide) (by decide) (by decide)
    have m2 : bitsOk (t.b + 48271 * (t.c + 1)) (39373 + (t.c + 1)) = true := bits2 (m := 70) (n := 30) (by simp at c1; omega) (by simp at c1; omega) (by decide) (by decide) (by decide)
    have e1 := fm ((t.b + 48271 * (t.c + 1)) * (39373 + (t.c + 1))) 2147483647 (by decide)
    generalize hx : ((t.b + 48271 * (t.c + 1)) * (39373 + (t.c + 1))).fmod 2147483647 = once at e1
    have e2 := fm once 40009 (by decide)
    have e3 : 0 ≤ t.b.fdiv 1000003 ∧ t.b.fdiv 1000003 ≤ t.b := by
      rw [Int.fdiv_eq_ediv_of_nonneg _ (by decide)]
      omega
    have m3 : bitsOk (once + (t.c + 1) + t.b.fdiv 1000003) (once.fmod 40009 + 7) = true := bits2 (m := 70) (n := 30) (by simp at c1; omega) (by omega) (by decide) (by decide) (by decide)
    have e4 := fm ((once + (t.c + 1) + t.b.fdiv 1000003) * (once.fmod 40009 + 7)) 2147483629 (by decide)
    generalize hy : ((once + (t.c + 1) + t.b.fdiv 1000003) * (once.fmod 40009 + 7)).fmod 2147483629 = twice at e4
    have m4 : bitsOk twice 48271 = true := bits2 (m := 40) (n := 30) (by omega) (by decide) (by decide) (by decide) (by decide)
    refine ⟨(((twice * 48271 + once).fmod 2147483587).fdiv 64).fmod below, { t with c := t.c + 1 }, ?_, (fm _ _ h0).1, (fm _ _ h0).2, ⟨b0, b1, by show 0 ≤ t.c + 1; omega, by simp at c1 ⊢; omega⟩⟩
    refine runDef_rt rfl ((sSeq_nx (e' := env0 6 [.tin, .int below]) (t' := t) ((sIf_f hc).trans rfl)).trans ?_)
    refine (sSeq_nx (e' := env0 6 [.tin, .int below]) (t' := { t with c := t.c + 1 }) rfl).trans ?_
    refine (sSeq_nx (e' := [some (false, .tin), some (false, .int below), none, some (false, .int once), none, none]) (t' := { t with c := t.c + 1 }) (sAsg_ok (eOp_ok (eB_ok (aCons_ok (eOp_ok (eOp_ok rfl (eOp_ok rfl rfl (mul_ok m1)) rfl) (eOp_ok rfl rfl rfl) (mul_ok m2)) rfl) rfl) rfl ((mod_ok (by decide)).trans (by rw [hx]))) rfl)).trans ?_
    refine (sSeq_nx (e' := [some (false, .tin), some (false, .int below), none, some (false, .int once), some (false, .int (once.fmod 40009 + 7)), none]) (t' := { t with c := t.c + 1 }) (sAsg_ok (eOp_ok (eOp_ok (eB_ok (aCons_ok rfl rfl) rfl) rfl (mod_ok (by decide))) rfl rfl) rfl)).trans ?_
    refine (sSeq_nx (e' := [some (false, .tin), some (false, .int below), none, some (false, .int once), some (false, .int (once.fmod 40009 + 7)), some (false, .int twice)]) (t' := { t with c := t.c + 1 }) (sAsg_ok (eOp_ok (eB_ok (aCons_ok (eOp_ok (eOp_ok (eOp_ok rfl rfl rfl) (eOp_ok rfl rfl (div_ok (by decide) (by decide))) rfl) rfl (mul_ok m3)) rfl) rfl) rfl ((mod_ok (by decide)).trans (by rw [hy]))) rfl)).trans ?_
    exact sSeq_ret (eOp_ok (eB_ok (aCons_ok (eOp_ok (eOp_ok (eB_ok (aCons_ok (eOp_ok (eOp_ok rfl rfl (mul_ok m4)) rfl rfl) rfl) rfl) rfl (mod_ok (by decide))) rfl (div_ok (by decide) (by decide))) rfl) rfl) rfl (mod_ok hb))
theorem sFor_nx {it : Nf.It} {G : Nf.G} {b : Nf.S} {env e' : Nf.Env} {t t1 t2 : Tin} {xs : List Val} (h : it env t = .ok xs t1) (g : Nf.forLoop G b xs env t1 = .nx e' t2) : Nf.sFor it G b env t = .nx e' t2 := sFor_ok h g
/-! ### the cells of a script -/
theorem cell_for (B : Nat) (hB : B < 2 ^ 1048600) : ∀ (xs : List Val), (∀ v ∈ xs, ∃ k b : Int, v = .tup [.int k, .int b] ∧ 0 ≤ k ∧ k ≤ 100 ∧ b.natAbs * 102 ≤ B) → ∀ (n : Int) (p o3 o4 o5 : Option (Bool × Val)) (t : Tin),
    ∃ (m : Int) (q3 q4 q5 : Option (Bool × Val)), forLoop (Nf.gTup [(Nf.gName 3), (Nf.gName 4)]) (sSeq (sAsg (Nf.gName 5) (eOp oMod (eB bInt (aCons (eVar 3) aNil)) (eVar 1))) (sSeq (sSet 2 (eVar 5) (eOp oAdd (eOp oIx (eOwn 2) (eVar 5)) (eOp oMul (eVar 4) (eOp oAdd (eVar 3) (eC (.int 2)))))) sNil)) xs
      [p, some (false, .int 1), some (true, .lst [.int n]), o3, o4, o5] t = .nx [p, some (false, .int 1), some (true, .lst [.int m]), q3, q4, q5] t ∧ m.natAbs ≤ n.natAbs + xs.length * B
  | [], h, n, p, o3, o4, o5, t => ⟨n, o3, o4, o5, rfl, by simp⟩
  | x :: xs, h, n, p, o3, o4, o5, t => by
    obtain ⟨k, b, rfl, h0, h1, h2⟩ := h x List.mem_cons_self
    obtain ⟨m, q3, q4, q5, e, hm⟩ := cell_for B hB xs (fun v hv => h v (List.mem_cons_of_mem _ hv)) (n + b * (k + 2)) p (some (false, .int k)) (some (false, .int b)) (some (false, .int 0)) t
    refine ⟨m, q3, q4, q5, ?_, ?_⟩
    · rw [← e]
      have hb : b.natAbs < 2 ^ 1048600 := by omega
      have m1 : bitsOk b (k + 2) = true := bits2 (m := 1048600) (n := 10) hb (by omega) (by decide) (by decide) (by decide)
      refine forLoop_nx (e1 := [p, some (false, .int 1), some (true, .lst [.int n]), some (false, .int k), some (false, .int b), o5]) rfl ?_
      refine (sSeq_nx (e' := [p, some (false, .int 1), some (true, .lst [.int n]), some (false, .int k), some (false, .int b), some (false, .int 0)]) (t' := t) (sAsg_ok (eOp_ok (eB_ok (aCons_ok rfl rfl) rfl) rfl ((mod_ok (by decide)).trans (by rw [Int.fmod_one]))) rfl)).trans ?_
      refine (sSeq_nx (e' := [p, some (false, .int 1), some (true, .lst [.int (n + b * (k + 2))]), some (false, .int k), some (false, .int b), some (false, .int 0)]) (t' := t) ?_).trans rfl
      have ee : (eOp oAdd (eOp oIx (eOwn 2) (eVar 5)) (eOp oMul (eVar 4) (eOp oAdd (eVar 3) (eC (.int 2))))) [p, some (false, .int 1), some (true, .lst [.int n]), some (false, .int k), some (false, .int b), some (false, .int 0)] t = .ok (.int (n + b * (k + 2))) t :=
        eOp_ok (eOp_ok rfl rfl rfl) (eOp_ok rfl (eOp_ok rfl rfl rfl) (mul_ok m1)) rfl
      show (Res.toS _ _) = _
      rw [ee]
      rfl
    · have h3 : (b * (k + 2)).natAbs ≤ B := by
        rw [Int.natAbs_mul]
        refine Nat.le_trans (Nat.mul_le_mul_left _ (?_ : (k + 2).natAbs ≤ 102)) h2
        omega
      have h4 : (n + b * (k + 2)).natAbs ≤ n.natAbs + (b * (k + 2)).natAbs := Int.natAbs_add_le _ _
      rw [List.length_cons, Nat.add_mul, Nat.one_mul]
      omega
theorem enum_mem {ms : List Int} {v : Val} (h : v ∈ enumL (ms.map Val.int)) : ∃ (k : Nat) (b : Int), v = .tup [.int k, .int b] ∧ k < ms.length ∧ b ∈ ms := by
  unfold enumL at h
  rw [List.mem_map] at h
  obtain ⟨⟨x, i⟩, hp, rfl⟩ := h
  have h2 := List.mem_zipIdx hp
  simp only [List.length_map, Nat.zero_add] at h2
  obtain ⟨_, h3, h4⟩ := h2
  rw [List.getElem_map] at h4
  exact ⟨i, ms[i - 0], by simp [h4], h3, List.getElem_mem _⟩
theorem cut_map (ns : List Int) (lo hi : Option Int) : cut (ns.map Val.int) lo hi = ((ns.drop (slIx ns.length 0 lo)).take (slIx ns.length ns.length hi - slIx ns.length 0 lo)).map Val.int := by
  unfold cut
  rw [List.length_map, List.map_take, List.map_drop]
theorem bits_lt {z : Int} (h : Builtin.Int.intBits z ≤ 1048576) : z.natAbs < 2 ^ 1048577 := by
  unfold Builtin.Int.intBits at h
  by_cases e : z.natAbs = 0
  · rw [e]; exact Nat.two_pow_pos _
  · have h0 : (z == 0) = false := by
      rw [beq_eq_false_iff_ne]
      intro h; rw [h] at e; exact e rfl
    rw [h0] at h
    have h2 : z.natAbs.log2 < 1048577 := by
      simp only [Bool.false_eq_true, if_false] at h
      omega
    exact (Nat.log2_lt e).mp h2
theorem cells_ok (ns : List Int) (hl : ns.length ≤ 63) (hb : ∀ z ∈ ns, Builtin.Int.intBits z ≤ 1048576) (t : Tin) : ∃ m : Int, g__law_cells [.scr ns, .int 1] t = .ok (.lst [.int m]) t ∧ m.natAbs < 2 ^ 1048610 := by
  have c0 : ∃ x : Int, (eOr (eB bList (aCons (eSl (eVar 0) pNo (pAt (eVar 1))) aNil)) (eLst (aCons (eC (.int 0)) aNil))) (env0 6 [.scr ns, .int 1]) t = .ok (.lst [.int x]) t ∧ x.natAbs < 2 ^ 1048577 := by
    cases ns with
    | nil => exact ⟨0, rfl, Nat.two_pow_pos _⟩
    | cons x r =>
      refine ⟨x, ?_, bits_lt (hb x List.mem_cons_self)⟩
      have e1 : cut ((x :: r).map Val.int) none (some 1) = [.int x] := by
        rw [cut_map]
        have : slIx (x :: r).length (x :: r).length (some 1) = 1 := by
          simp [slIx]
        rw [this]
        rfl
      have e2 : (eSl (eVar 0) pNo (pAt (eVar 1))) (env0 6 [.scr (x :: r), .int 1]) t = .ok (.lst [.int x]) t := by
        show Res.ok (Val.lst (cut ((x :: r).map Val.int) none (some 1))) t = _
        rw [e1]
      show Res.bind _ _ = _
      rw [eB_ok (aCons_ok e2 rfl) rfl]
      rfl
  obtain ⟨x, e0, hx⟩ := c0
  have hc : (eSl (eVar 0) (pAt (eVar 1)) (pAt (eC (.int 63)))) [some (false, .scr ns), some (false, .int 1), some (true, .lst [.int x]), none, none, none] t = .ok (.lst (((ns.drop (slIx ns.length 0 (some 1))).take (slIx ns.length ns.length (some 63) - slIx ns.length 0 (some 1))).map Val.int)) t := by
    show Res.ok (Val.lst (cut (ns.map Val.int) (some 1) (some 63))) t = _
    rw [cut_map]
  generalize hms : (ns.drop (slIx ns.length 0 (some 1))).take (slIx ns.length ns.length (some 63) - slIx ns.length 0 (some 1)) = ms at hc
  have hmem : ∀ z ∈ ms, z ∈ ns := fun z hz => by
    rw [← hms] at hz
    exact List.mem_of_mem_drop (List.mem_of_mem_take hz)
  have hlen : ms.length ≤ 63 := by
    rw [← hms, List.length_take, List.length_drop]
    omega
  have pB : (2 : Nat) ^ 1048577 * 102 < 2 ^ 1048600 := by
    have : (2 : Nat) ^ 1048600 = 2 ^ 1048577 * 2 ^ 23 := by rw [← Nat.pow_add]
    rw [this]
    exact Nat.mul_lt_mul_of_pos_left (by decide) (Nat.two_pow_pos _)
  obtain ⟨m, q3, q4, q5, e, hm⟩ := cell_for (2 ^ 1048577 * 102) pB (enumL (ms.map Val.int)) (fun v hv => by
    obtain ⟨k, b, rfl, h1, h2⟩ := enum_mem hv
    exact ⟨k, b, rfl, by omega, by omega, Nat.mul_le_mul_right _ (Nat.le_of_lt (bits_lt (hb b (hmem b h2))))⟩) x (some (false, .scr ns)) none none none t
  refine ⟨m, ?_, ?_⟩
  · refine runDef_rt rfl ((sSeq_nx (e' := [some (false, .scr ns), some (false, .int 1), some (true, .lst [.int x]), none, none, none]) (t' := t) ?_).trans ?_)
    · show Res.toS _ _ = _
      rw [e0]; rfl
    · refine (sSeq_nx (sFor_ok (xs := enumL (ms.map Val.int)) (t1 := t) ?_ e)).trans rfl
      show Res.bind (aCons _ aNil _ t) _ = _
      rw [aCons_ok hc rfl]
      rfl
  · have h5 : (enumL (ms.map Val.int)).length ≤ 63 := by rw [enumL_len, List.length_map]; exact hlen
    have h6 : (enumL (ms.map Val.int)).length * (2 ^ 1048577 * 102) ≤ 63 * (2 ^ 1048577 * 102) := Nat.mul_le_mul_right _ h5
    have h7 : (2 : Nat) ^ 1048610 = 2 ^ 1048577 * 2 ^ 33 := by rw [← Nat.pow_add]
    rw [h7]
    have h8 : (2 : Nat) ^ 33 = 8589934592 := by decide
    rw [h8]
    generalize (2 : Nat) ^ 1048577 = C at hx hm h6 ⊢
    omega
theorem box_ok (n : Int) (t : Tin) (hn : n.natAbs < 2 ^ 1048610) : ∃ a b : Int, g__law_box [.lst [.int n], .int 0] t = .ok (.lst [.int a, .int b, .int 0]) t ∧ Good 1000000 ⟨a, b, 0⟩ := by
  have f1 : ∀ x y : Int, 0 < y → 0 ≤ x.fmod y ∧ x.fmod y < y := fun x y hy => by
    rw [Int.fmod_eq_emod_of_nonneg x (Int.le_of_lt hy)]
    exact ⟨Int.emod_nonneg x (by omega), Int.emod_lt_of_pos x hy⟩
  have e1 := f1 n 2305843009213693951 (by decide)
  have e2 : (if n < 0 then -n else n).natAbs = n.natAbs := by split <;> simp
  refine ⟨(if n < 0 then -n else n) * (if decide ((10 : Int) ^ 18 ≤ (if n < 0 then -n else n)) then 1 else 0), n.fmod 2305843009213693951 + 39373 * 0 + 25155048, ?_, ⟨by show 0 ≤ n.fmod 2305843009213693951 + 39373 * 0 + 25155048; omega, by show n.fmod 2305843009213693951 + 39373 * 0 + 25155048 < 4611686018427387904; omega, by show (0 : Int) ≤ 0; decide, by show (0 : Int) + ((1000000 : Nat) : Int) ≤ 1000000; decide⟩⟩
  have m1 : bitsOk (if n < 0 then -n else n) (if decide ((10 : Int) ^ 18 ≤ (if n < 0 then -n else n)) then 1 else 0) = true := bits2 (m := 1048610) (n := 4) (by rw [e2]; exact hn) (by generalize decide ((10 : Int) ^ 18 ≤ (if n < 0 then -n else n)) = q; cases q <;> decide) (by decide) (by decide) (by decide)
  refine runDef_rt rfl ((sSeq_nx (e' := [some (false, .lst [.int n]), some (false, .int 0), some (false, .int n)]) (t' := t) rfl).trans ?_)
  refine sSeq_ret ?_
  show Res.bind _ _ = _
  have a1 : (eOp oMul (eB bAbs (aCons (eVar 2) aNil)) (eB bInt (aCons (eOp cGe (eB bAbs (aCons (eVar 2) aNil)) (eOp oPow (eC (.int 10)) (eC (.int 18)))) aNil))) (frzAll [some (false, .lst [.int n]), some (false, .int 0), some (false, .int n)]) t = .ok (.int ((if n < 0 then -n else n) * (if decide ((10 : Int) ^ 18 ≤ (if n < 0 then -n else n)) then 1 else 0))) t :=
    eOp_ok rfl (eB_ok (aCons_ok (eOp_ok rfl (w := .int ((10 : Int) ^ 18)) rfl rfl) rfl) rfl) (mul_ok m1)
  have a2 : (eOp oAdd (eOp oAdd (eOp oMod (eB bInt (aCons (eVar 2) aNil)) (eC (.int 2305843009213693951))) (eOp oMul (eC (.int 39373)) (eVar 1))) (eC (.int 25155048))) (frzAll [some (false, .lst [.int n]), some (false, .int 0), some (false, .int n)]) t = .ok (.int (n.fmod 2305843009213693951 + 39373 * 0 + 25155048)) t :=
    eOp_ok (eOp_ok (eOp_ok (eB_ok (aCons_ok rfl rfl) rfl) rfl (mod_ok (by decide))) (eOp_ok rfl rfl (mul_ok (by decide))) rfl) rfl rfl
  rw [aCons_ok a1 (aCons_ok a2 (aCons_ok rfl rfl))]
  rfl
theorem all_ok (m : Nat) (hr : ∀ (n : Nat) (t : Tin), Good (n + m) t → ∃ t', g__law_right [.tin] t = .ok (.bl true) t' ∧ Good n t') : ∀ (xs : List Val) (p : Option (Bool × Val)) (o : Option (Bool × Val)) (t : Tin), Good (xs.length * m) t →
    ∃ t', compLoop (Nf.gName 2) Nf.tYes (eCall GL c__law_right (aCons (eVar 1) aNil)) [p, some (false, .tin), o] xs t = .ok (List.replicate xs.length (.bl true)) t'
  | [], p, o, t, g => ⟨t, rfl⟩
  | x :: xs, p, o, t, g => by
    rw [List.length_cons, Nat.add_mul, Nat.one_mul] at g
    obtain ⟨t1, e1, g1⟩ := hr _ t g
    obtain ⟨t2, e2⟩ := all_ok m hr xs p o t1 g1
    exact ⟨t2, compLoop_yes (e1 := [p, some (false, .tin), some (false, x)]) rfl (eCall_ok (aCons_ok rfl rfl) e1) e2⟩
theorem bools_rep : ∀ n : Nat, boolsOf (List.replicate n (.bl true)) = some (List.replicate n true)
  | 0 => rfl
  | n + 1 => by rw [List.replicate_succ, boolsOf, bools_rep n]; rfl
theorem good_le {n m : Nat} {t : Tin} (g : Good n t) (h : m ≤ n) : Good m t := ⟨g.b0, g.b1, g.c0, by have := g.c1; omega⟩
theorem pure_of (m laps : Nat) (hml : laps * m ≤ 1000000) (hlim : laps ≤ 1000000) (hr : ∀ (n : Nat) (t : Tin), Good (n + m) t → ∃ t', g__law_right [.tin] t = .ok (.bl true) t' ∧ Good n t')
    (he : e_all GL = (sSeq (sRet (eB bAll (aCons (eComp (iRange1 (aCons (eC (.int laps)) aNil)) (Nf.gName 2) [2] Nf.tYes (eCall GL c__law_right (aCons (eVar 1) aNil))) aNil))) sNil))
    (ns : List Int) (hl : ns.length ≤ 63) (hb : ∀ z ∈ ns, Builtin.Int.intBits z ≤ 1048576) : lawRun (e_tin GL) (e_all GL) 3 ns := by
  obtain ⟨n, e1, hn⟩ := cells_ok ns hl hb ⟨0, 0, 0⟩
  obtain ⟨a, b, e2, g⟩ := box_ok n ⟨0, 0, 0⟩ hn
  have hlen : (rangeL 0 laps).length = laps := by simp [rangeL]
  obtain ⟨t', e3⟩ := all_ok m hr (rangeL 0 laps) none none ⟨a, b, 0⟩ (good_le g (by rw [hlen]; exact hml))
  refine ⟨a, b, 0, ⟨0, 0, 0⟩, .bl true, t', eCall_ok (aCons_ok (eCall_ok (aCons_ok rfl (aCons_ok rfl rfl)) e1) (aCons_ok rfl rfl)) e2, ?_, rfl⟩
  rw [he]
  have hit : (iRange1 (aCons (eC (.int laps)) aNil)) [none, some (false, .tin), none] ⟨a, b, 0⟩ = .ok (rangeL 0 laps) ⟨a, b, 0⟩ := by
    show (if (laps : Int) ≤ lim ∧ -(lim : Int) ≤ (laps : Int) then _ else _) = _
    have : (lim : Int) = 1000000 := rfl
    rw [if_pos (by rw [this]; omega)]
  refine sSeq_ret (eB_ok (aCons_ok (eComp_ok hit (by rw [hlen]; exact hlim) e3) rfl) ?_)
  show Option.map _ (boolsOf _) = _
  rw [bools_rep, Option.map_some]
  simp
def GR : Gam := (gam [(c__law_ways, g__law_ways), (c_poly_row, g_poly_row), (c__law_take, g__law_take), (c_sum_poly, g_sum_poly), (c__law_same, g__law_same), (c_row_gaps, g_row_gaps), (c_row_poly, g_row_poly), (c__law_size, g__law_size), (c_stretch_sum, g_stretch_sum), (c__law_value, g__law_value), (c_poly_shares, g_poly_shares), (c_whole_shares, g_whole_shares), (c_shares_sum, g_shares_sum)])
def A0 : Nf.S := (fun Γ => (sAsg (Nf.gTup [(Nf.gName 1), (Nf.gName 2)]) (eTup (aCons (eTup (aCons (eC (.int 1)) (aCons (eTup (aCons (eC (.int 0)) aNil)) (aCons (eTup aNil) aNil)))) (aCons (eCall Γ c__law_take (aCons (eVar 0) (aCons (eC (.int 13)) aNil))) aNil))))) GR
def A1 : Nf.S := (fun Γ => (sAsg (Nf.gName 3) (eOp oAdd (eOp oMul (eTup (aCons (eTup (aCons (eC (.int 0)) (aCons (eC (.int 1)) aNil))) aNil)) (eVar 2)) (eTup (aCons (eTup (aCons (eC (.int 1)) (aCons (eC (.int 1)) aNil))) aNil))))) GR
def A2 : Nf.S := (fun Γ => (sAsg (Nf.gName 4) (eCall Γ c__law_ways (aCons (eVar 2) aNil)))) GR
def A3 : Nf.S := (fun Γ => (sIf (Nf.tNot (tTru (eCall Γ c__law_same (aCons (eLst (aCons (eCall Γ c_poly_shares (aCons (eVar 1) (aCons (eVar 3) aNil))) (aCons (eCall Γ c_whole_shares (aCons (eVar 1) (aCons (eVar 3) aNil))) (aCons (eCall Γ c_shares_sum (aCons (eVar 1) (aCons (eB bTuple (aCons (eComp (iSeq (eVar 4)) (Nf.gName 9) [9] Nf.tYes (eTup (aCons (eVar 9) (aCons (eC (.int 1)) aNil)))) aNil)) aNil))) aNil)))) (aCons (eLst (aCons (eB bTuple (aCons (eComp (iSeq (eVar 4)) (Nf.gName 9) [9] Nf.tYes (eTup (aCons (eVar 9) (aCons (eC (.int 1)) aNil)))) aNil)) (aCons (eB bTuple (aCons (eVar 4) aNil)) (aCons (eVar 3) aNil)))) aNil))))) (sSeq (sRet (eC (.bl false))) sNil) sNil)) GR
def A4 : Nf.S := (fun Γ => (sAsg (Nf.gName 5) (eCall Γ c_poly_row (aCons (eVar 3) (aCons (eC (.int 0)) (aCons (eOp oAdd (eVar 2) (eC (.int 1))) aNil)))))) GR
def A5 : Nf.S := (fun Γ => (sIf (Nf.tOr (tBl (eOp cNe (eVar 5) (eB bTuple (aCons (eComp (iRange1 (aCons (eOp oAdd (eVar 2) (eC (.int 1))) aNil)) (Nf.gName 10) [10] Nf.tYes (eTup (aCons (eCall Γ c__law_size (aCons (eVar 10) (aCons (eVar 2) aNil))) (aCons (eC (.int 1)) aNil)))) aNil)))) (Nf.tOr (tBl (eOp cNe (eCall Γ c_row_gaps (aCons (eVar 5) aNil)) (eB bTuple (aCons (eComp (iSeq (eVar 4)) (Nf.gName 9) [9] Nf.tYes (eTup (aCons (eVar 9) (aCons (eC (.int 1)) aNil)))) aNil)))) (tBl (eOp cNe (eCall Γ c_row_poly (aCons (eVar 5) aNil)) (eVar 3))))) (sSeq (sRet (eC (.bl false))) sNil) sNil)) GR
def A6 : Nf.S := (fun Γ => (sAsg (Nf.gName 6) (eCall Γ c__law_take (aCons (eVar 0) (aCons (eC (.int 20)) aNil))))) GR
def A7 : Nf.S := (fun Γ => (sAsg (Nf.gName 7) (eCall Γ c_sum_poly (aCons (eVar 3) aNil)))) GR
def A8 : Nf.S := (fun Γ => (sAsg (Nf.gName 8) (eB bSum (aCons (eComp (iRange1 (aCons (eOp oAdd (eVar 6) (eC (.int 1))) aNil)) (Nf.gName 10) [10] Nf.tYes (eCall Γ c__law_size (aCons (eVar 10) (aCons (eVar 2) aNil)))) aNil)))) GR
def A9 : Nf.S := (fun Γ => (sIf (Nf.tOr (tBl (eOp cNe (eCall Γ c_stretch_sum (aCons (eVar 3) (aCons (eC (.int 0)) (aCons (eVar 6) aNil)))) (eTup (aCons (eVar 8) (aCons (eC (.int 1)) aNil))))) (tBl (eOp cNe (eCall Γ c__law_value (aCons (eVar 7) (aCons (eOp oAdd (eVar 6) (eC (.int 1))) aNil))) (eTup (aCons (eVar 8) (aCons (eC (.int 1)) aNil)))))) (sSeq (sRet (eC (.bl false))) sNil) sNil)) GR
def A10 : Nf.S := (fun Γ => (sRet (eAnd (eOp cEq (eCall Γ c_poly_shares (aCons (eVar 1) (aCons (eVar 7) aNil))) (eOp oAdd (eTup (aCons (eTup (aCons (eC (.int 0)) (aCons (eC (.int 1)) aNil))) aNil)) (eB bTuple (aCons (eComp (iSeq (eVar 4)) (Nf.gName 9) [9] Nf.tYes (eTup (aCons (eVar 9) (aCons (eC (.int 1)) aNil)))) aNil)))) (eOp cEq (eOp oIx (eVar 7) (eUn uNeg (eC (.int 1)))) (eTup (aCons (eC (.int 1)) (aCons (eOp oAdd (eVar 2) (eC (.int 1))) aNil))))))) GR
def R11 : Nf.S := sNil
def R10 : Nf.S := sSeq A10 R11
def R9 : Nf.S := sSeq A9 R10
def R8 : Nf.S := sSeq A8 R9
def R7 : Nf.S := sSeq A7 R8
def R6 : Nf.S := sSeq A6 R7
def R5 : Nf.S := sSeq A5 R6
def R4 : Nf.S := sSeq A4 R5
def R3 : Nf.S := sSeq A3 R4
def R2 : Nf.S := sSeq A2 R3
def R1 : Nf.S := sSeq A1 R2
def R0 : Nf.S := sSeq A0 R1
theorem tBl_ok {f : E} {env : Nf.Env} {t t1 : Tin} {b : Bool} (h : f env t = .ok (.bl b) t1) : Nf.tBl f env t = .ok b t1 := by unfold Nf.tBl; rw [h]; rfl
def ev (p : Int) (a b c d e f : Option (Bool × Val)) : Nf.Env := [some (false, .tin), some (false, .tup [.int 1, .tup [.int 0], .tup []]), some (false, .int p), a, b, c, d, e, f, none, none]
theorem seq2 {a b c : Nf.S} {e e' : Nf.Env} {t t' : Tin} (h : sSeq a (sSeq b sNil) e t = .nx e' t') : sSeq a (sSeq b c) e t = c e' t' := by
  unfold sSeq at h ⊢
  cases ha : a e t with
  | nx e1 t1 =>
    rw [ha] at h
    simp only [] at h ⊢
    cases hb : b e1 t1 with
    | nx e2 t2 =>
      rw [hb] at h
      simp only [sNil] at h ⊢
      cases h; rfl
    | _ => rw [hb] at h; cases h
  | _ => rw [ha] at h; cases h
def pol0 : Val := (Val.tup [(Val.tup [(Val.int 1), (Val.int 1)])])
def due0 : Val := (Val.lst [(Val.int 1)])
def row0 : Val := (Val.tup [(Val.tup [(Val.int 1), (Val.int 1)])])
def tot0 : Val := (Val.tup [(Val.tup [(Val.int 0), (Val.int 1)]), (Val.tup [(Val.int 1), (Val.int 1)])])
theorem a1_0 (t : Tin) : A1 (ev 0 none none none none none none) t = .nx (ev 0 (some (false, pol0)) none none none none none) t := by kernel_rfl
theorem a2_0 (t : Tin) : A2 (ev 0 (some (false, pol0)) none none none none none) t = .nx (ev 0 (some (false, pol0)) (some (false, due0)) none none none none) t := by kernel_rfl
theorem a3_0 (t : Tin) : A3 (ev 0 (some (false, pol0)) (some (false, due0)) none none none none) t = .nx (ev 0 (some (false, pol0)) (some (false, due0)) none none none none) t := by kernel_rfl
theorem a4_0 (t : Tin) : A4 (ev 0 (some (false, pol0)) (some (false, due0)) none none none none) t = .nx (ev 0 (some (false, pol0)) (some (false, due0)) (some (false, row0)) none none none) t := by kernel_rfl
theorem a5_0 (t : Tin) : A5 (ev 0 (some (false, pol0)) (some (false, due0)) (some (false, row0)) none none none) t = .nx (ev 0 (some (false, pol0)) (some (false, due0)) (some (false, row0)) none none none) t := by kernel_rfl
theorem a7_0 (o : Option (Bool × Val)) (t : Tin) : A7 (ev 0 (some (false, pol0)) (some (false, due0)) (some (false, row0)) o none none) t = .nx (ev 0 (some (false, pol0)) (some (false, due0)) (some (false, row0)) o (some (false, tot0)) none) t := by kernel_rfl
theorem a10_0 (o q : Option (Bool × Val)) (t : Tin) : A10 (ev 0 (some (false, pol0)) (some (false, due0)) (some (false, row0)) o (some (false, tot0)) q) t = .rt (.bl true) t := by kernel_rfl
theorem q0_0 (t : Tin) : sSeq A8 (sSeq A9 sNil) (ev 0 (some (false, pol0)) (some (false, due0)) (some (false, row0)) (some (false, .int 0)) (some (false, tot0)) none) t = .nx (ev 0 (some (false, pol0)) (some (false, due0)) (some (false, row0)) (some (false, .int 0)) (some (false, tot0)) (some (false, .int 1))) t := by kernel_rfl
theorem q0_1 (t : Tin) : sSeq A8 (sSeq A9 sNil) (ev 0 (some (false, pol0)) (some (false, due0)) (some (false, row0)) (some (false, .int 1)) (some (false, tot0)) none) t = .nx (ev 0 (some (false, pol0)) (some (false, due0)) (some (false, row0)) (some (false, .int 1)) (some (false, tot0)) (some (false, .int 2))) t := by kernel_rfl
theorem q0_2 (t : Tin) : sSeq A8 (sSeq A9 sNil) (ev 0 (some (false, pol0)) (some (false, due0)) (some (false, row0)) (some (false, .int 2)) (some (false, tot0)) none) t = .nx (ev 0 (some (false, pol0)) (some (false, due0)) (some (false, row0)) (some (false, .int 2)) (some (false, tot0)) (some (false, .int 3))) t := by kernel_rfl
theorem q0_3 (t : Tin) : sSeq A8 (sSeq A9 sNil) (ev 0 (some (false, pol0)) (some (false, due0)) (some (false, row0)) (some (false, .int 3)) (some (false, tot0)) none) t = .nx (ev 0 (some (false, pol0)) (some (false, due0)) (some (false, row0)) (some (false, .int 3)) (some (false, tot0)) (some (false, .int 4))) t := by kernel_rfl
theorem q0_4 (t : Tin) : sSeq A8 (sSeq A9 sNil) (ev 0 (some (false, pol0)) (some (false, due0)) (some (false, row0)) (some (false, .int 4)) (some (false, tot0)) none) t = .nx (ev 0 (some (false, pol0)) (some (false, due0)) (some (false, row0)) (some (false, .int 4)) (some (false, tot0)) (some (false, .int 5))) t := by kernel_rfl
theorem q0_5 (t : Tin) : sSeq A8 (sSeq A9 sNil) (ev 0 (some (false, pol0)) (some (false, due0)) (some (false, row0)) (some (false, .int 5)) (some (false, tot0)) none) t = .nx (ev 0 (some (false, pol0)) (some (false, due0)) (some (false, row0)) (some (false, .int 5)) (some (false, tot0)) (some (false, .int 6))) t := by kernel_rfl
theorem q0_6 (t : Tin) : sSeq A8 (sSeq A9 sNil) (ev 0 (some (false, pol0)) (some (false, due0)) (some (false, row0)) (some (false, .int 6)) (some (false, tot0)) none) t = .nx (ev 0 (some (false, pol0)) (some (false, due0)) (some (false, row0)) (some (false, .int 6)) (some (false, tot0)) (some (false, .int 7))) t := by kernel_rfl
theorem q0_7 (t : Tin) : sSeq A8 (sSeq A9 sNil) (ev 0 (some (false, pol0)) (some (false, due0)) (some (false, row0)) (some (false, .int 7)) (some (false, tot0)) none) t = .nx (ev 0 (some (false, pol0)) (some (false, due0)) (some (false, row0)) (some (false, .int 7)) (some (false, tot0)) (some (false, .int 8))) t := by kernel_rfl
theorem q0_8 (t : Tin) : sSeq A8 (sSeq A9 sNil) (ev 0 (some (false, pol0)) (some (false, due0)) (some (false, row0)) (some (false, .int 8)) (some (false, tot0)) none) t = .nx (ev 0 (some (false, pol0)) (some (false, due0)) (some (false, row0)) (some (false, .int 8)) (some (false, tot0)) (some (false, .int 9))) t := by kernel_rfl
theorem q0_9 (t : Tin) : sSeq A8 (sSeq A9 sNil) (ev 0 (some (false, pol0)) (some (false, due0)) (some (false, row0)) (some (false, .int 9)) (some (false, tot0)) none) t = .nx (ev 0 (some (false, pol0)) (some (false, due0)) (some (false, row0)) (some (false, .int 9)) (some (false, tot0)) (some (false, .int 10))) t := by kernel_rfl
theorem q0_10 (t : Tin) : sSeq A8 (sSeq A9 sNil) (ev 0 (some (false, pol0)) (some (false, due0)) (some (false, row0)) (some (false, .int 10)) (some (false, tot0)) none) t = .nx (ev 0 (some (false, pol0)) (some (false, due0)) (some (false, row0)) (some (false, .int 10)) (some (false, tot0)) (some (false, .int 11))) t := by kernel_rfl
theorem q0_11 (t : Tin) : sSeq A8 (sSeq A9 sNil) (ev 0 (some (false, pol0)) (some (false, due0)) (some (false, row0)) (some (false, .int 11)) (some (false, tot0)) none) t = .nx (ev 0 (some (false, pol0)) (some (false, due0)) (some (false, row0)) (some (false, .int 11)) (some (false, tot0)) (some (false, .int 12))) t := by kernel_rfl
theorem q0_12 (t : Tin) : sSeq A8 (sSeq A9 sNil) (ev 0 (some (false, pol0)) (some (false, due0)) (some (false, row0)) (some (false, .int 12)) (some (false, tot0)) none) t = .nx (ev 0 (some (false, pol0)) (some (false, due0)) (some (false, row0)) (some (false, .int 12)) (some (false, tot0)) (some (false, .int 13))) t := by kernel_rfl
theorem q0_13 (t : Tin) : sSeq A8 (sSeq A9 sNil) (ev 0 (some (false, pol0)) (some (false, due0)) (some (false, row0)) (some (false, .int 13)) (some (false, tot0)) none) t = .nx (ev 0 (some (false, pol0)) (some (false, due0)) (some (false, row0)) (some (false, .int 13)) (some (false, tot0)) (some (false, .int 14))) t := by kernel_rfl
theorem q0_14 (t : Tin) : sSeq A8 (sSeq A9 sNil) (ev 0 (some (false, pol0)) (some (false, due0)) (some (false, row0)) (some (false, .int 14)) (some (false, tot0)) none) t = .nx (ev 0 (some (false, pol0)) (some (false, due0)) (some (false, row0)) (some (false, .int 14)) (some (false, tot0)) (some (false, .int 15))) t := by kernel_rfl
theorem q0_15 (t : Tin) : sSeq A8 (sSeq A9 sNil) (ev 0 (some (false, pol0)) (some (false, due0)) (some (false, row0)) (some (false, .int 15)) (some (false, tot0)) none) t = .nx (ev 0 (some (false, pol0)) (some (false, due0)) (some (false, row0)) (some (false, .int 15)) (some (false, tot0)) (some (false, .int 16))) t := by kernel_rfl
theorem q0_16 (t : Tin) : sSeq A8 (sSeq A9 sNil) (ev 0 (some (false, pol0)) (some (false, due0)) (some (false, row0)) (some (false, .int 16)) (some (false, tot0)) none) t = .nx (ev 0 (some (false, pol0)) (some (false, due0)) (some (false, row0)) (some (false, .int 16)) (some (false, tot0)) (some (false, .int 17))) t := by kernel_rfl
theorem q0_17 (t : Tin) : sSeq A8 (sSeq A9 sNil) (ev 0 (some (false, pol0)) (some (false, due0)) (some (false, row0)) (some (false, .int 17)) (some (false, tot0)) none) t = .nx (ev 0 (some (false, pol0)) (some (false, due0)) (some (false, row0)) (some (false, .int 17)) (some (false, tot0)) (some (false, .int 18))) t := by kernel_rfl
theorem q0_18 (t : Tin) : sSeq A8 (sSeq A9 sNil) (ev 0 (some (false, pol0)) (some (false, due0)) (some (false, row0)) (some (false, .int 18)) (some (false, tot0)) none) t = .nx (ev 0 (some (false, pol0)) (some (false, due0)) (some (false, row0)) (some (false, .int 18)) (some (false, tot0)) (some (false, .int 19))) t := by kernel_rfl
theorem q0_19 (t : Tin) : sSeq A8 (sSeq A9 sNil) (ev 0 (some (false, pol0)) (some (false, due0)) (some (false, row0)) (some (false, .int 19)) (some (false, tot0)) none) t = .nx (ev 0 (some (false, pol0)) (some (false, due0)) (some (false, row0)) (some (false, .int 19)) (some (false, tot0)) (some (false, .int 20))) t := by kernel_rfl
theorem c0 (m : Int) (h0 : 0 ≤ m) (h1 : m < 20) (t : Tin) : R7 (ev 0 (some (false, pol0)) (some (false, due0)) (some (false, row0)) (some (false, .int m)) none none) t = .rt (.bl true) t := by
  have hm : m = 0 ∨ m = 1 ∨ m = 2 ∨ m = 3 ∨ m = 4 ∨ m = 5 ∨ m = 6 ∨ m = 7 ∨ m = 8 ∨ m = 9 ∨ m = 10 ∨ m = 11 ∨ m = 12 ∨ m = 13 ∨ m = 14 ∨ m = 15 ∨ m = 16 ∨ m = 17 ∨ m = 18 ∨ m = 19 := by omega
  rcases hm with rfl | rfl | rfl | rfl | rfl | rfl | rfl | rfl | rfl | rfl | rfl | rfl | rfl | rfl | rfl | rfl | rfl | rfl | rfl | rfl
  · exact (sSeq_nx (a7_0 _ t)).trans ((seq2 (q0_0 t)).trans ((sSeq_rt (a10_0 _ _ t))))
  · exact (sSeq_nx (a7_0 _ t)).trans ((seq2 (q0_1 t)).trans ((sSeq_rt (a10_0 _ _ t))))
  · exact (sSeq_nx (a7_0 _ t)).trans ((seq2 (q0_2 t)).trans ((sSeq_rt (a10_0 _ _ t))))
  · exact (sSeq_nx (a7_0 _ t)).trans ((seq2 (q0_3 t)).trans ((sSeq_rt (a10_0 _ _ t))))
  · exact (sSeq_nx (a7_0 _ t)).trans ((seq2 (q0_4 t)).trans ((sSeq_rt (a10_0 _ _ t))))
  · exact (sSeq_nx (a7_0 _ t)).trans ((seq2 (q0_5 t)).trans ((sSeq_rt (a10_0 _ _ t))))
  · exact (sSeq_nx (a7_0 _ t)).trans ((seq2 (q0_6 t)).trans ((sSeq_rt (a10_0 _ _ t))))
  · exact (sSeq_nx (a7_0 _ t)).trans ((seq2 (q0_7 t)).trans ((sSeq_rt (a10_0 _ _ t))))
  · exact (sSeq_nx (a7_0 _ t)).trans ((seq2 (q0_8 t)).trans ((sSeq_rt (a10_0 _ _ t))))
  · exact (sSeq_nx (a7_0 _ t)).trans ((seq2 (q0_9 t)).trans ((sSeq_rt (a10_0 _ _ t))))
  · exact (sSeq_nx (a7_0 _ t)).trans ((seq2 (q0_10 t)).trans ((sSeq_rt (a10_0 _ _ t))))
  · exact (sSeq_nx (a7_0 _ t)).trans ((seq2 (q0_11 t)).trans ((sSeq_rt (a10_0 _ _ t))))
  · exact (sSeq_nx (a7_0 _ t)).trans ((seq2 (q0_12 t)).trans ((sSeq_rt (a10_0 _ _ t))))
  · exact (sSeq_nx (a7_0 _ t)).trans ((seq2 (q0_13 t)).trans ((sSeq_rt (a10_0 _ _ t))))
  · exact (sSeq_nx (a7_0 _ t)).trans ((seq2 (q0_14 t)).trans ((sSeq_rt (a10_0 _ _ t))))
  · exact (sSeq_nx (a7_0 _ t)).trans ((seq2 (q0_15 t)).trans ((sSeq_rt (a10_0 _ _ t))))
  · exact (sSeq_nx (a7_0 _ t)).trans ((seq2 (q0_16 t)).trans ((sSeq_rt (a10_0 _ _ t))))
  · exact (sSeq_nx (a7_0 _ t)).trans ((seq2 (q0_17 t)).trans ((sSeq_rt (a10_0 _ _ t))))
  · exact (sSeq_nx (a7_0 _ t)).trans ((seq2 (q0_18 t)).trans ((sSeq_rt (a10_0 _ _ t))))
  · exact (sSeq_nx (a7_0 _ t)).trans ((seq2 (q0_19 t)).trans ((sSeq_rt (a10_0 _ _ t))))
theorem d0 (t : Tin) : R1 (ev 0 none none none none none none) t = R6 (ev 0 (some (false, pol0)) (some (false, due0)) (some (false, row0)) none none none) t := (sSeq_nx (a1_0 t)).trans ((sSeq_nx (a2_0 t)).trans ((sSeq_nx (a3_0 t)).trans ((sSeq_nx (a4_0 t)).trans (sSeq_nx (a5_0 t)))))
def pol1 : Val := (Val.tup [(Val.tup [(Val.int 0), (Val.int 1)]), (Val.tup [(Val.int 1), (Val.int 1)])])
def due1 : Val := (Val.lst [(Val.int 0), (Val.int 1)])
def row1 : Val := (Val.tup [(Val.tup [(Val.int 0), (Val.int 1)]), (Val.tup [(Val.int 1), (Val.int 1)])])
def tot1 : Val := (Val.tup [(Val.tup [(Val.int 0), (Val.int 1)]), (Val.tup [(Val.int (-1)), (Val.int 2)]), (Val.tup [(Val.int 1), (Val.int 2)])])
theorem a1_1 (t : Tin) : A1 (ev 1 none none none none none none) t = .nx (ev 1 (some (false, pol1)) none none none none none) t := by kernel_rfl
theorem a2_1 (t : Tin) : A2 (ev 1 (some (false, pol1)) none none none none none) t = .nx (ev 1 (some (false, pol1)) (some (false, due1)) none none none none) t := by kernel_rfl
theorem a3_1 (t : Tin) : A3 (ev 1 (some (false, pol1)) (some (false, due1)) none none none none) t = .nx (ev 1 (some (false, pol1)) (some (false, due1)) none none none none) t := by kernel_rfl
theorem a4_1 (t : Tin) : A4 (ev 1 (some (false, pol1)) (some (false, due1)) none none none none) t = .nx (ev 1 (some (false, pol1)) (some (false, due1)) (some (false, row1)) none none none) t := by kernel_rfl
theorem a5_1 (t : Tin) : A5 (ev 1 (some (false, pol1)) (some (false, due1)) (some (false, row1)) none none none) t = .nx (ev 1 (some (false, pol1)) (some (false, due1)) (some (false, row1)) none none none) t := by kernel_rfl
theorem a7_1 (o : Option (Bool × Val)) (t : Tin) : A7 (ev 1 (some (false, pol1)) (some (false, due1)) (some (false, row1)) o none none) t = .nx (ev 1 (some (false, pol1)) (some (false, due1)) (some (false, row1)) o (some (false, tot1)) none) t := by kernel_rfl
theorem a10_1 (o q : Option (Bool × Val)) (t : Tin) : A10 (ev 1 (some (false, pol1)) (some (false, due1)) (some (false, row1)) o (some (false, tot1)) q) t = .rt (.bl true) t := by kernel_rfl
theorem q1_0 (t : Tin) : sSeq A8 (sSeq A9 sNil) (ev 1 (some (false, pol1)) (some (false, due1)) (some (false, row1)) (some (false, .int 0)) (some (false, tot1)) none) t = .nx (ev 1 (some (false, pol1)) (some (false, due1)) (some (false, row1)) (some (false, .int 0)) (some (false, tot1)) (some (false, .int 0))) t := by kernel_rfl
theorem q1_1 (t : Tin) : sSeq A8 (sSeq A9 sNil) (ev 1 (some (false, pol1)) (some (false, due1)) (some (false, row1)) (some (false, .int 1)) (some (false, tot1)) none) t = .nx (ev 1 (some (false, pol1)) (some (false, due1)) (some (false, row1)) (some (false, .int 1)) (some (false, tot1)) (some (false, .int 1))) t := by kernel_rfl
theorem q1_2 (t : Tin) : sSeq A8 (sSeq A9 sNil) (ev 1 (some (false, pol1)) (some (false, due1)) (some (false, row1)) (some (false, .int 2)) (some (false, tot1)) none) t = .nx (ev 1 (some (false, pol1)) (some (false, due1)) (some (false, row1)) (some (false, .int 2)) (some (false, tot1)) (some (false, .int 3))) t := by kernel_rfl
theorem q1_3 (t : Tin) : sSeq A8 (sSeq A9 sNil) (ev 1 (some (false, pol1)) (some (false, due1)) (some (false, row1)) (some (false, .int 3)) (some (false, tot1)) none) t = .nx (ev 1 (some (false, pol1)) (some (false, due1)) (some (false, row1)) (some (false, .int 3)) (some (false, tot1)) (some (false, .int 6))) t := by kernel_rfl
theorem q1_4 (t : Tin) : sSeq A8 (sSeq A9 sNil) (ev 1 (some (false, pol1)) (some (false, due1)) (some (false, row1)) (some (false, .int 4)) (some (false, tot1)) none) t = .nx (ev 1 (some (false, pol1)) (some (false, due1)) (some (false, row1)) (some (false, .int 4)) (some (false, tot1)) (some (false, .int 10))) t := by kernel_rfl
theorem q1_5 (t : Tin) : sSeq A8 (sSeq A9 sNil) (ev 1 (some (false, pol1)) (some (false, due1)) (some (false, row1)) (some (false, .int 5)) (some (false, tot1)) none) t = .nx (ev 1 (some (false, pol1)) (some (false, due1)) (some (false, row1)) (some (false, .int 5)) (some (false, tot1)) (some (false, .int 15))) t := by kernel_rfl
theorem q1_6 (t : Tin) : sSeq A8 (sSeq A9 sNil) (ev 1 (some (false, pol1)) (some (false, due1)) (some (false, row1)) (some (false, .int 6)) (some (false, tot1)) none) t = .nx (ev 1 (some (false, pol1)) (some (false, due1)) (some (false, row1)) (some (false, .int 6)) (some (false, tot1)) (some (false, .int 21))) t := by kernel_rfl
theorem q1_7 (t : Tin) : sSeq A8 (sSeq A9 sNil) (ev 1 (some (false, pol1)) (some (false, due1)) (some (false, row1)) (some (false, .int 7)) (some (false, tot1)) none) t = .nx (ev 1 (some (false, pol1)) (some (false, due1)) (some (false, row1)) (some (false, .int 7)) (some (false, tot1)) (some (false, .int 28))) t := by kernel_rfl
theorem q1_8 (t : Tin) : sSeq A8 (sSeq A9 sNil) (ev 1 (some (false, pol1)) (some (false, due1)) (some (false, row1)) (some (false, .int 8)) (some (false, tot1)) none) t = .nx (ev 1 (some (false, pol1)) (some (false, due1)) (some (false, row1)) (some (false, .int 8)) (some (false, tot1)) (some (false, .int 36))) t := by kernel_rfl
theorem q1_9 (t : Tin) : sSeq A8 (sSeq A9 sNil) (ev 1 (some (false, pol1)) (some (false, due1)) (some (false, row1)) (some (false, .int 9)) (some (false, tot1)) none) t = .nx (ev 1 (some (false, pol1)) (some (false, due1)) (some (false, row1)) (some (false, .int 9)) (some (false, tot1)) (some (false, .int 45))) t := by kernel_rfl
theorem q1_10 (t : Tin) : sSeq A8 (sSeq A9 sNil) (ev 1 (some (false, pol1)) (some (false, due1)) (some (false, row1)) (some (false, .int 10)) (some (false, tot1)) none) t = .nx (ev 1 (some (false, pol1)) (some (false, due1)) (some (false, row1)) (some (false, .int 10)) (some (false, tot1)) (some (false, .int 55))) t := by kernel_rfl
theorem q1_11 (t : Tin) : sSeq A8 (sSeq A9 sNil) (ev 1 (some (false, pol1)) (some (false, due1)) (some (false, row1)) (some (false, .int 11)) (some (false, tot1)) none) t = .nx (ev 1 (some (false, pol1)) (some (false, due1)) (some (false, row1)) (some (false, .int 11)) (some (false, tot1)) (some (false, .int 66))) t := by kernel_rfl
theorem q1_12 (t : Tin) : sSeq A8 (sSeq A9 sNil) (ev 1 (some (false, pol1)) (some (false, due1)) (some (false, row1)) (some (false, .int 12)) (some (false, tot1)) none) t = .nx (ev 1 (some (false, pol1)) (some (false, due1)) (some (false, row1)) (some (false, .int 12)) (some (false, tot1)) (some (false, .int 78))) t := by kernel_rfl
theorem q1_13 (t : Tin) : sSeq A8 (sSeq A9 sNil) (ev 1 (some (false, pol1)) (some (false, due1)) (some (false, row1)) (some (false, .int 13)) (some (false, tot1)) none) t = .nx (ev 1 (some (false, pol1)) (some (false, due1)) (some (false, row1)) (some (false, .int 13)) (some (false, tot1)) (some (false, .int 91))) t := by kernel_rfl
theorem q1_14 (t : Tin) : sSeq A8 (sSeq A9 sNil) (ev 1 (some (false, pol1)) (some (false, due1)) (some (false, row1)) (some (false, .int 14)) (some (false, tot1)) none) t = .nx (ev 1 (some (false, pol1)) (some (false, due1)) (some (false, row1)) (some (false, .int 14)) (some (false, tot1)) (some (false, .int 105))) t := by kernel_rfl
theorem q1_15 (t : Tin) : sSeq A8 (sSeq A9 sNil) (ev 1 (some (false, pol1)) (some (false, due1)) (some (false, row1)) (some (false, .int 15)) (some (false, tot1)) none) t = .nx (ev 1 (some (false, pol1)) (some (false, due1)) (some (false, row1)) (some (false, .int 15)) (some (false, tot1)) (some (false, .int 120))) t := by kernel_rfl
theorem q1_16 (t : Tin) : sSeq A8 (sSeq A9 sNil) (ev 1 (some (false, pol1)) (some (false, due1)) (some (false, row1)) (some (false, .int 16)) (some (false, tot1)) none) t = .nx (ev 1 (some (false, pol1)) (some (false, due1)) (some (false, row1)) (some (false, .int 16)) (some (false, tot1)) (some (false, .int 136))) t := by kernel_rfl
theorem q1_17 (t : Tin) : sSeq A8 (sSeq A9 sNil) (ev 1 (some (false, pol1)) (some (false, due1)) (some (false, row1)) (some (false, .int 17)) (some (false, tot1)) none) t = .nx (ev 1 (some (false, pol1)) (some (false, due1)) (some (false, row1)) (some (false, .int 17)) (some (false, tot1)) (some (false, .int 153))) t := by kernel_rfl
theorem q1_18 (t : Tin) : sSeq A8 (sSeq A9 sNil) (ev 1 (some (false, pol1)) (some (false, due1)) (some (false, row1)) (some (false, .int 18)) (some (false, tot1)) none) t = .nx (ev 1 (some (false, pol1)) (some (false, due1)) (some (false, row1)) (some (false, .int 18)) (some (false, tot1)) (some (false, .int 171))) t := by kernel_rfl
theorem q1_19 (t : Tin) : sSeq A8 (sSeq A9 sNil) (ev 1 (some (false, pol1)) (some (false, due1)) (some (false, row1)) (some (false, .int 19)) (some (false, tot1)) none) t = .nx (ev 1 (some (false, pol1)) (some (false, due1)) (some (false, row1)) (some (false, .int 19)) (some (false, tot1)) (some (false, .int 190))) t := by kernel_rfl
theorem c1 (m : Int) (h0 : 0 ≤ m) (h1 : m < 20) (t : Tin) : R7 (ev 1 (some (false, pol1)) (some (false, due1)) (some (false, row1)) (some (false, .int m)) none none) t = .rt (.bl true) t := by
  have hm : m = 0 ∨ m = 1 ∨ m = 2 ∨ m = 3 ∨ m = 4 ∨ m = 5 ∨ m = 6 ∨ m = 7 ∨ m = 8 ∨ m = 9 ∨ m = 10 ∨ m = 11 ∨ m = 12 ∨ m = 13 ∨ m = 14 ∨ m = 15 ∨ m = 16 ∨ m = 17 ∨ m = 18 ∨ m = 19 := by omega
  rcases hm with rfl | rfl | rfl | rfl | rfl | rfl | rfl | rfl | rfl | rfl | rfl | rfl | rfl | rfl | rfl | rfl | rfl | rfl | rfl | rfl
  · exact (sSeq_nx (a7_1 _ t)).trans ((seq2 (q1_0 t)).trans ((sSeq_rt (a10_1 _ _ t))))
  · exact (sSeq_nx (a7_1 _ t)).trans ((seq2 (q1_1 t)).trans ((sSeq_rt (a10_1 _ _ t))))
  · exact (sSeq_nx (a7_1 _ t)).trans ((seq2 (q1_2 t)).trans ((sSeq_rt (a10_1 _ _ t))))
  · exact (sSeq_nx (a7_1 _ t)).trans ((seq2 (q1_3 t)).trans ((sSeq_rt (a10_1 _ _ t))))
  · exact (sSeq_nx (a7_1 _ t)).trans ((seq2 (q1_4 t)).trans ((sSeq_rt (a10_1 _ _ t))))
  · exact (sSeq_nx (a7_1 _ t)).trans ((seq2 (q1_5 t)).trans ((sSeq_rt (a10_1 _ _ t))))
  · exact (sSeq_nx (a7_1 _ t)).trans ((seq2 (q1_6 t)).trans ((sSeq_rt (a10_1 _ _ t))))
  · exact (sSeq_nx (a7_1 _ t)).trans ((seq2 (q1_7 t)).trans ((sSeq_rt (a10_1 _ _ t))))
  · exact (sSeq_nx (a7_1 _ t)).trans ((seq2 (q1_8 t)).trans ((sSeq_rt (a10_1 _ _ t))))
  · exact (sSeq_nx (a7_1 _ t)).trans ((seq2 (q1_9 t)).trans ((sSeq_rt (a10_1 _ _ t))))
  · exact (sSeq_nx (a7_1 _ t)).trans ((seq2 (q1_10 t)).trans ((sSeq_rt (a10_1 _ _ t))))
  · exact (sSeq_nx (a7_1 _ t)).trans ((seq2 (q1_11 t)).trans ((sSeq_rt (a10_1 _ _ t))))
  · exact (sSeq_nx (a7_1 _ t)).trans ((seq2 (q1_12 t)).trans ((sSeq_rt (a10_1 _ _ t))))
  · exact (sSeq_nx (a7_1 _ t)).trans ((seq2 (q1_13 t)).trans ((sSeq_rt (a10_1 _ _ t))))
  · exact (sSeq_nx (a7_1 _ t)).trans ((seq2 (q1_14 t)).trans ((sSeq_rt (a10_1 _ _ t))))
  · exact (sSeq_nx (a7_1 _ t)).trans ((seq2 (q1_15 t)).trans ((sSeq_rt (a10_1 _ _ t))))
  · exact (sSeq_nx (a7_1 _ t)).trans ((seq2 (q1_16 t)).trans ((sSeq_rt (a10_1 _ _ t))))
  · exact (sSeq_nx (a7_1 _ t)).trans ((seq2 (q1_17 t)).trans ((sSeq_rt (a10_1 _ _ t))))
  · exact (sSeq_nx (a7_1 _ t)).trans ((seq2 (q1_18 t)).trans ((sSeq_rt (a10_1 _ _ t))))
  · exact (sSeq_nx (a7_1 _ t)).trans ((seq2 (q1_19 t)).trans ((sSeq_rt (a10_1 _ _ t))))
theorem d1 (t : Tin) : R1 (ev 1 none none none none none none) t = R6 (ev 1 (some (false, pol1)) (some (false, due1)) (some (false, row1)) none none none) t := (sSeq_nx (a1_1 t)).trans ((sSeq_nx (a2_1 t)).trans ((sSeq_nx (a3_1 t)).trans ((sSeq_nx (a4_1 t)).trans (sSeq_nx (a5_1 t)))))
def pol2 : Val := (Val.tup [(Val.tup [(Val.int 0), (Val.int 1)]), (Val.tup [(Val.int 0), (Val.int 1)]), (Val.tup [(Val.int 1), (Val.int 1)])])
def due2 : Val := (Val.lst [(Val.int 0), (Val.int 1), (Val.int 2)])
def row2 : Val := (Val.tup [(Val.tup [(Val.int 0), (Val.int 1)]), (Val.tup [(Val.int 1), (Val.int 1)]), (Val.tup [(Val.int 4), (Val.int 1)])])
def tot2 : Val := (Val.tup [(Val.tup [(Val.int 0), (Val.int 1)]), (Val.tup [(Val.int 1), (Val.int 6)]), (Val.tup [(Val.int (-1)), (Val.int 2)]), (Val.tup [(Val.int 1), (Val.int 3)])])
theorem a1_2 (t : Tin) : A1 (ev 2 none none none none none none) t = .nx (ev 2 (some (false, pol2)) none none none none none) t := by kernel_rfl
theorem a2_2 (t : Tin) : A2 (ev 2 (some (false, pol2)) none none none none none) t = .nx (ev 2 (some (false, pol2)) (some (false, due2)) none none none none) t := by kernel_rfl
theorem a3_2 (t : Tin) : A3 (ev 2 (some (false, pol2)) (some (false, due2)) none none none none) t = .nx (ev 2 (some (false, pol2)) (some (false, due2)) none none none none) t := by kernel_rfl
theorem a4_2 (t : Tin) : A4 (ev 2 (some (false, pol2)) (some (false, due2)) none none none none) t = .nx (ev 2 (some (false, pol2)) (some (false, due2)) (some (false, row2)) none none none) t := by kernel_rfl
theorem a5_2 (t : Tin) : A5 (ev 2 (some (false, pol2)) (some (false, due2)) (some (false, row2)) none none none) t = .nx (ev 2 (some (false, pol2)) (some (false, due2)) (some (false, row2)) none none none) t := by kernel_rfl
theorem a7_2 (o : Option (Bool × Val)) (t : Tin) : A7 (ev 2 (some (false, pol2)) (some (false, due2)) (some (false, row2)) o none none) t = .nx (ev 2 (some (false, pol2)) (some (false, due2)) (some (false, row2)) o (some (false, tot2)) none) t := by kernel_rfl
theorem a10_2 (o q : Option (Bool × Val)) (t : Tin) : A10 (ev 2 (some (false, pol2)) (some (false, due2)) (some (false, row2)) o (some (false, tot2)) q) t = .rt (.bl true) t := by kernel_rfl
theorem q2_0 (t : Tin) : sSeq A8 (sSeq A9 sNil) (ev 2 (some (false, pol2)) (some (false, due2)) (some (false, row2)) (some (false, .int 0)) (some (false, tot2)) none) t = .nx (ev 2 (some (false, pol2)) (some (false, due2)) (some (false, row2)) (some (false, .int 0)) (some (false, tot2)) (some (false, .int 0))) t := by kernel_rfl
theorem q2_1 (t : Tin) : sSeq A8 (sSeq A9 sNil) (ev 2 (some (false, pol2)) (some (false, due2)) (some (false, row2)) (some (false, .int 1)) (some (false, tot2)) none) t = .nx (ev 2 (some (false, pol2)) (some (false, due2)) (some (false, row2)) (some (false, .int 1)) (some (false, tot2)) (some (false, .int 1))) t := by kernel_rfl
theorem q2_2 (t : Tin) : sSeq A8 (sSeq A9 sNil) (ev 2 (some (false, pol2)) (some (false, due2)) (some (false, row2)) (some (false, .int 2)) (some (false, tot2)) none) t = .nx (ev 2 (some (false, pol2)) (some (false, due2)) (some (false, row2)) (some (false, .int 2)) (some (false, tot2)) (some (false, .int 5))) t := by kernel_rfl
theorem q2_3 (t : Tin) : sSeq A8 (sSeq A9 sNil) (ev 2 (some (false, pol2)) (some (false, due2)) (some (false, row2)) (some (false, .int 3)) (some (false, tot2)) none) t = .nx (ev 2 (some (false, pol2)) (some (false, due2)) (some (false, row2)) (some (false, .int 3)) (some (false, tot2)) (some (false, .int 14))) t := by kernel_rfl
theorem q2_4 (t : Tin) : sSeq A8 (sSeq A9 sNil) (ev 2 (some (false, pol2)) (some (false, due2)) (some (false, row2)) (some (false, .int 4)) (some (false, tot2)) none) t = .nx (ev 2 (some (false, pol2)) (some (false, due2)) (some (false, row2)) (some (false, .int 4)) (some (false, tot2)) (some (false, .int 30))) t := by kernel_rfl
theorem q2_5 (t : Tin) : sSeq A8 (sSeq A9 sNil) (ev 2 (some (false, pol2)) (some (false, due2)) (some (false, row2)) (some (false, .int 5)) (some (false, tot2)) none) t = .nx (ev 2 (some (false, pol2)) (some (false, due2)) (some (false, row2)) (some (false, .int 5)) (some (false, tot2)) (some (false, .int 55))) t := by kernel_rfl
theorem q2_6 (t : Tin) : sSeq A8 (sSeq A9 sNil) (ev 2 (some (false, pol2)) (some (false, due2)) (some (false, row2)) (some (false, .int 6)) (some (false, tot2)) none) t = .nx (ev 2 (some (false, pol2)) (some (false, due2)) (some (false, row2)) (some (false, .int 6)) (some (false, tot2)) (some (false, .int 91))) t := by kernel_rfl
theorem q2_7 (t : Tin) : sSeq A8 (sSeq A9 sNil) (ev 2 (some (false, pol2)) (some (false, due2)) (some (false, row2)) (some (false, .int 7)) (some (false, tot2)) none) t = .nx (ev 2 (some (false, pol2)) (some (false, due2)) (some (false, row2)) (some (false, .int 7)) (some (false, tot2)) (some (false, .int 140))) t := by kernel_rfl
theorem q2_8 (t : Tin) : sSeq A8 (sSeq A9 sNil) (ev 2 (some (false, pol2)) (some (false, due2)) (some (false, row2)) (some (false, .int 8)) (some (false, tot2)) none) t = .nx (ev 2 (some (false, pol2)) (some (false, due2)) (some (false, row2)) (some (false, .int 8)) (some (false, tot2)) (some (false, .int 204))) t := by kernel_rfl
theorem q2_9 (t : Tin) : sSeq A8 (sSeq A9 sNil) (ev 2 (some (false, pol2)) (some (false, due2)) (some (false, row2)) (some (false, .int 9)) (some (false, tot2)) none) t = .nx (ev 2 (some (false, pol2)) (some (false, due2)) (some (false, row2)) (some (false, .int 9)) (some (false, tot2)) (some (false, .int 285))) t := by kernel_rfl
theorem q2_10 (t : Tin) : sSeq A8 (sSeq A9 sNil) (ev 2 (some (false, pol2)) (some (false, due2)) (some (false, row2)) (some (false, .int 10)) (some (false, tot2)) none) t = .nx (ev 2 (some (false, pol2)) (some (false, due2)) (some (false, row2)) (some (false, .int 10)) (some (false, tot2)) (some (false, .int 385))) t := by kernel_rfl
theorem q2_11 (t : Tin) : sSeq A8 (sSeq A9 sNil) (ev 2 (some (false, pol2)) (some (false, due2)) (some (false, row2)) (some (false, .int 11)) (some (false, tot2)) none) t = .nx (ev 2 (some (false, pol2)) (some (false, due2)) (some (false, row2)) (some (false, .int 11)) (some (false, tot2)) (some (false, .int 506))) t := by kernel_rfl
theorem q2_12 (t : Tin) : sSeq A8 (sSeq A9 sNil) (ev 2 (some (false, pol2)) (some (false, due2)) (some (false, row2)) (some (false, .int 12)) (some (false, tot2)) none) t = .nx (ev 2 (some (false, pol2)) (some (false, due2)) (some (false, row2)) (some (false, .int 12)) (some (false, tot2)) (some (false, .int 650))) t := by kernel_rfl
theorem q2_13 (t : Tin) : sSeq A8 (sSeq A9 sNil) (ev 2 (some (false, pol2)) (some (false, due2)) (some (false, row2)) (some (false, .int 13)) (some (false, tot2)) none) t = .nx (ev 2 (some (false, pol2)) (some (false, due2)) (some (false, row2)) (some (false, .int 13)) (some (false, tot2)) (some (false, .int 819))) t := by kernel_rfl
theorem q2_14 (t : Tin) : sSeq A8 (sSeq A9 sNil) (ev 2 (some (false, pol2)) (some (false, due2)) (some (false, row2)) (some (false, .int 14)) (some (false, tot2)) none) t = .nx (ev 2 (some (false, pol2)) (some (false, due2)) (some (false, row2)) (some (false, .int 14)) (some (false, tot2)) (some (false, .int 1015))) t := by kernel_rfl
theorem q2_15 (t : Tin) : sSeq A8 (sSeq A9 sNil) (ev 2 (some (false, pol2)) (some (false, due2)) (some (false, row2)) (some (false, .int 15)) (some (false, tot2)) none) t = .nx (ev 2 (some (false, pol2)) (some (false, due2)) (some (false, row2)) (some (false, .int 15)) (some (false, tot2)) (some (false, .int 1240))) t := by kernel_rfl
theorem q2_16 (t : Tin) : sSeq A8 (sSeq A9 sNil) (ev 2 (some (false, pol2)) (some (false, due2)) (some (false, row2)) (some (false, .int 16)) (some (false, tot2)) none) t = .nx (ev 2 (some (false, pol2)) (some (false, due2)) (some (false, row2)) (some (false, .int 16)) (some (false, tot2)) (some (false, .int 1496))) t := by kernel_rfl
theorem q2_17 (t : Tin) : sSeq A8 (sSeq A9 sNil) (ev 2 (some (false, pol2)) (some (false, due2)) (some (false, row2)) (some (false, .int 17)) (some (false, tot2)) none) t = .nx (ev 2 (some (false, pol2)) (some (false, due2)) (some (false, row2)) (some (false, .int 17)) (some (false, tot2)) (some (false, .int 1785))) t := by kernel_rfl
theorem q2_18 (t : Tin) : sSeq A8 (sSeq A9 sNil) (ev 2 (some (false, pol2)) (some (false, due2)) (some (false, row2)) (some (false, .int 18)) (some (false, tot2)) none) t = .nx (ev 2 (some (false, pol2)) (some (false, due2)) (some (false, row2)) (some (false, .int 18)) (some (false, tot2)) (some (false, .int 2109))) t := by kernel_rfl
theorem q2_19 (t : Tin) : sSeq A8 (sSeq A9 sNil) (ev 2 (some (false, pol2)) (some (false, due2)) (some (false, row2)) (some (false, .int 19)) (some (false, tot2)) none) t = .nx (ev 2 (some (false, pol2)) (some (false, due2)) (some (false, row2)) (some (false, .int 19)) (some (false, tot2)) (some (false, .int 2470))) t := by kernel_rfl
theorem c2 (m : Int) (h0 : 0 ≤ m) (h1 : m < 20) (t : Tin) : R7 (ev 2 (some (false, pol2)) (some (false, due2)) (some (false, row2)) (some (false, .int m)) none none) t = .rt (.bl true) t := by
  have hm : m = 0 ∨ m = 1 ∨ m = 2 ∨ m = 3 ∨ m = 4 ∨ m = 5 ∨ m = 6 ∨ m = 7 ∨ m = 8 ∨ m = 9 ∨ m = 10 ∨ m = 11 ∨ m = 12 ∨ m = 13 ∨ m = 14 ∨ m = 15 ∨ m = 16 ∨ m = 17 ∨ m = 18 ∨ m = 19 := by omega
  rcases hm with rfl | rfl | rfl | rfl | rfl | rfl | rfl | rfl | rfl | rfl | rfl | rfl | rfl | rfl | rfl | rfl | rfl | rfl | rfl | rfl
  · exact (sSeq_nx (a7_2 _ t)).trans ((seq2 (q2_0 t)).trans ((sSeq_rt (a10_2 _ _ t))))
  · exact (sSeq_nx (a7_2 _ t)).trans ((seq2 (q2_1 t)).trans ((sSeq_rt (a10_2 _ _ t))))
  · exact (sSeq_nx (a7_2 _ t)).trans ((seq2 (q2_2 t)).trans ((sSeq_rt (a10_2 _ _ t))))
  · exact (sSeq_nx (a7_2 _ t)).trans ((seq2 (q2_3 t)).trans ((sSeq_rt (a10_2 _ _ t))))
  · exact (sSeq_nx (a7_2 _ t)).trans ((seq2 (q2_4 t)).trans ((sSeq_rt (a10_2 _ _ t))))
  · exact (sSeq_nx (a7_2 _ t)).trans ((seq2 (q2_5 t)).trans ((sSeq_rt (a10_2 _ _ t))))
  · exact (sSeq_nx (a7_2 _ t)).trans ((seq2 (q2_6 t)).trans ((sSeq_rt (a10_2 _ _ t))))
  · exact (sSeq_nx (a7_2 _ t)).trans ((seq2 (q2_7 t)).trans ((sSeq_rt (a10_2 _ _ t))))
  · exact (sSeq_nx (a7_2 _ t)).trans ((seq2 (q2_8 t)).trans ((sSeq_rt (a10_2 _ _ t))))
  · exact (sSeq_nx (a7_2 _ t)).trans ((seq2 (q2_9 t)).trans ((sSeq_rt (a10_2 _ _ t))))
  · exact (sSeq_nx (a7_2 _ t)).trans ((seq2 (q2_10 t)).trans ((sSeq_rt (a10_2 _ _ t))))
  · exact (sSeq_nx (a7_2 _ t)).trans ((seq2 (q2_11 t)).trans ((sSeq_rt (a10_2 _ _ t))))
  · exact (sSeq_nx (a7_2 _ t)).trans ((seq2 (q2_12 t)).trans ((sSeq_rt (a10_2 _ _ t))))
  · exact (sSeq_nx (a7_2 _ t)).trans ((seq2 (q2_13 t)).trans ((sSeq_rt (a10_2 _ _ t))))
  · exact (sSeq_nx (a7_2 _ t)).trans ((seq2 (q2_14 t)).trans ((sSeq_rt (a10_2 _ _ t))))
  · exact (sSeq_nx (a7_2 _ t)).trans ((seq2 (q2_15 t)).trans ((sSeq_rt (a10_2 _ _ t))))
  · exact (sSeq_nx (a7_2 _ t)).trans ((seq2 (q2_16 t)).trans ((sSeq_rt (a10_2 _ _ t))))
  · exact (sSeq_nx (a7_2 _ t)).trans ((seq2 (q2_17 t)).trans ((sSeq_rt (a10_2 _ _ t))))
  · exact (sSeq_nx (a7_2 _ t)).trans ((seq2 (q2_18 t)).trans ((sSeq_rt (a10_2 _ _ t))))
  · exact (sSeq_nx (a7_2 _ t)).trans ((seq2 (q2_19 t)).trans ((sSeq_rt (a10_2 _ _ t))))
theorem d2 (t : Tin) : R1 (ev 2 none none none none none none) t = R6 (ev 2 (some (false, pol2)) (some (false, due2)) (some (false, row2)) none none none) t := (sSeq_nx (a1_2 t)).trans ((sSeq_nx (a2_2 t)).trans ((sSeq_nx (a3_2 t)).trans ((sSeq_nx (a4_2 t)).trans (sSeq_nx (a5_2 t)))))
def pol3 : Val := (Val.tup [(Val.tup [(Val.int 0), (Val.int 1)]), (Val.tup [(Val.int 0), (Val.int 1)]), (Val.tup [(Val.int 0), (Val.int 1)]), (Val.tup [(Val.int 1), (Val.int 1)])])
def due3 : Val := (Val.lst [(Val.int 0), (Val.int 1), (Val.int 6), (Val.int 6)])
def row3 : Val := (Val.tup [(Val.tup [(Val.int 0), (Val.int 1)]), (Val.tup [(Val.int 1), (Val.int 1)]), (Val.tup [(Val.int 8), (Val.int 1)]), (Val.tup [(Val.int 27), (Val.int 1)])])
def tot3 : Val := (Val.tup [(Val.tup [(Val.int 0), (Val.int 1)]), (Val.tup [(Val.int 0), (Val.int 1)]), (Val.tup [(Val.int 1), (Val.int 4)]), (Val.tup [(Val.int (-1)), (Val.int 2)]), (Val.tup [(Val.int 1), (Val.int 4)])])
theorem a1_3 (t : Tin) : A1 (ev 3 none none none none none none) t = .nx (ev 3 (some (false, pol3)) none none none none none) t := by kernel_rfl
theorem a2_3 (t : Tin) : A2 (ev 3 (some (false, pol3)) none none none none none) t = .nx (ev 3 (some (false, pol3)) (some (false, due3)) none none none none) t := by kernel_rfl
theorem a3_3 (t : Tin) : A3 (ev 3 (some (false, pol3)) (some (false, due3)) none none none none) t = .nx (ev 3 (some (false, pol3)) (some (false, due3)) none none none none) t := by kernel_rfl
theorem a4_3 (t : Tin) : A4 (ev 3 (some (false, pol3)) (some (false, due3)) none none none none) t = .nx (ev 3 (some (false, pol3)) (some (false, due3)) (some (false, row3)) none none none) t := by kernel_rfl
theorem a5_3 (t : Tin) : A5 (ev 3 (some (false, pol3)) (some (false, due3)) (some (false, row3)) none none none) t = .nx (ev 3 (some (false, pol3)) (some (false, due3)) (some (false, row3)) none none none) t := by kernel_rfl
theorem a7_3 (o : Option (Bool × Val)) (t : Tin) : A7 (ev 3 (some (false, pol3)) (some (false, due3)) (some (false, row3)) o none none) t = .nx (ev 3 (some (false, pol3)) (some (false, due3)) (some (false, row3)) o (some (false, tot3)) none) t := by kernel_rfl
theorem a10_3 (o q : Option (Bool × Val)) (t : Tin) : A10 (ev 3 (some (false, pol3)) (some (false, due3)) (some (false, row3)) o (some (false, tot3)) q) t = .rt (.bl true) t := by kernel_rfl
theorem q3_0 (t : Tin) : sSeq A8 (sSeq A9 sNil) (ev 3 (some (false, pol3)) (some (false, due3)) (some (false, row3)) (some (false, .int 0)) (some (false, tot3)) none) t = .nx (ev 3 (some (false, pol3)) (some (false, due3)) (some (false, row3)) (some (false, .int 0)) (some (false, tot3)) (some (false, .int 0))) t := by kernel_rfl
theorem q3_1 (t : Tin) : sSeq A8 (sSeq A9 sNil) (ev 3 (some (false, pol3)) (some (false, due3)) (some (false, row3)) (some (false, .int 1)) (some (false, tot3)) none) t = .nx (ev 3 (some (false, pol3)) (some (false, due3)) (some (false, row3)) (some (false, .int 1)) (some (false, tot3)) (some (false, .int 1))) t := by kernel_rfl
theorem q3_2 (t : Tin) : sSeq A8 (sSeq A9 sNil) (ev 3 (some (false, pol3)) (some (false, due3)) (some (false, row3)) (some (false, .int 2)) (some (false, tot3)) none) t = .nx (ev 3 (some (false, pol3)) (some (false, due3)) (some (false, row3)) (some (false, .int 2)) (some (false, tot3)) (some (false, .int 9))) t := by kernel_rfl
theorem q3_3 (t : Tin) : sSeq A8 (sSeq A9 sNil) (ev 3 (some (false, pol3)) (some (false, due3)) (some (false, row3)) (some (false, .int 3)) (some (false, tot3)) none) t = .nx (ev 3 (some (false, pol3)) (some (false, due3)) (some (false, row3)) (some (false, .int 3)) (some (false, tot3)) (some (false, .int 36))) t := by kernel_rfl
theorem q3_4 (t : Tin) : sSeq A8 (sSeq A9 sNil) (ev 3 (some (false, pol3)) (some (false, due3)) (some (false, row3)) (some (false, .int 4)) (some (false, tot3)) none) t = .nx (ev 3 (some (false, pol3)) (some (false, due3)) (some (false, row3)) (some (false, .int 4)) (some (false, tot3)) (some (false, .int 100))) t := by kernel_rfl
theorem q3_5 (t : Tin) : sSeq A8 (sSeq A9 sNil) (ev 3 (some (false, pol3)) (some (false, due3)) (some (false, row3)) (some (false, .int 5)) (some (false, tot3)) none) t = .nx (ev 3 (some (false, pol3)) (some (false, due3)) (some (false, row3)) (some (false, .int 5)) (some (false, tot3)) (some (false, .int 225))) t := by kernel_rfl
theorem q3_6 (t : Tin) : sSeq A8 (sSeq A9 sNil) (ev 3 (some (false, pol3)) (some (false, due3)) (some (false, row3)) (some (false, .int 6)) (some (false, tot3)) none) t = .nx (ev 3 (some (false, pol3)) (some (false, due3)) (some (false, row3)) (some (false, .int 6)) (some (false, tot3)) (some (false, .int 441))) t := by kernel_rfl
theorem q3_7 (t : Tin) : sSeq A8 (sSeq A9 sNil) (ev 3 (some (false, pol3)) (some (false, due3)) (some (false, row3)) (some (false, .int 7)) (some (false, tot3)) none) t = .nx (ev 3 (some (false, pol3)) (some (false, due3)) (some (false, row3)) (some (false, .int 7)) (some (false, tot3)) (some (false, .int 784))) t := by kernel_rfl
theorem q3_8 (t : Tin) : sSeq A8 (sSeq A9 sNil) (ev 3 (some (false, pol3)) (some (false, due3)) (some (false, row3)) (some (false, .int 8)) (some (false, tot3)) none) t = .nx (ev 3 (some (false, pol3)) (some (false, due3)) (some (false, row3)) (some (false, .int 8)) (some (false, tot3)) (some (false, .int 1296))) t := by kernel_rfl
theorem q3_9 (t : Tin) : sSeq A8 (sSeq A9 sNil) (ev 3 (some (false, pol3)) (some (false, due3)) (some (false, row3)) (some (false, .int 9)) (some (false, tot3)) none) t = .nx (ev 3 (some (false, pol3)) (some (false, due3)) (some (false, row3)) (some (false, .int 9)) (some (false, tot3)) (some (false, .int 2025))) t := by kernel_rfl
theorem q3_10 (t : Tin) : sSeq A8 (sSeq A9 sNil) (ev 3 (some (false, pol3)) (some (false, due3)) (some (false, row3)) (some (false, .int 10)) (some (false, tot3)) none) t = .nx (ev 3 (some (false, pol3)) (some (false, due3)) (some (false, row3)) (some (false, .int 10)) (some (false, tot3)) (some (false, .int 3025))) t := by kernel_rfl
theorem q3_11 (t : Tin) : sSeq A8 (sSeq A9 sNil) (ev 3 (some (false, pol3)) (some (false, due3)) (some (false, row3)) (some (false, .int 11)) (some (false, tot3)) none) t = .nx (ev 3 (some (false, pol3)) (some (false, due3)) (some (false, row3)) (some (false, .int 11)) (some (false, tot3)) (some (false, .int 4356))) t := by kernel_rfl
theorem q3_12 (t : Tin) : sSeq A8 (sSeq A9 sNil) (ev 3 (some (false, pol3)) (some (false, due3)) (some (false, row3)) (some (false, .int 12)) (some (false, tot3)) none) t = .nx (ev 3 (some (false, pol3)) (some (false, due3)) (some (false, row3)) (some (false, .int 12)) (some (false, tot3)) (some (false, .int 6084))) t := by kernel_rfl
theorem q3_13 (t : Tin) : sSeq A8 (sSeq A9 sNil) (ev 3 (some (false, pol3)) (some (false, due3)) (some (false, row3)) (some (false, .int 13)) (some (false, tot3)) none) t = .nx (ev 3 (some (false, pol3)) (some (false, due3)) (some (false, row3)) (some (false, .int 13)) (some (false, tot3)) (some (false, .int 8281))) t := by kernel_rfl
theorem q3_14 (t : Tin) : sSeq A8 (sSeq A9 sNil) (ev 3 (some (false, pol3)) (some (false, due3)) (some (false, row3)) (some (false, .int 14)) (some (false, tot3)) none) t = .nx (ev 3 (some (false, pol3)) (some (false, due3)) (some (false, row3)) (some (false, .int 14)) (some (false, tot3)) (some (false, .int 11025))) t := by kernel_rfl
theorem q3_15 (t : Tin) : sSeq A8 (sSeq A9 sNil) (ev 3 (some (false, pol3)) (some (false, due3)) (some (false, row3)) (some (false, .int 15)) (some (false, tot3)) none) t = .nx (ev 3 (some (false, pol3)) (some (false, due3)) (some (false, row3)) (some (false, .int 15)) (some (false, tot3)) (some (false, .int 14400))) t := by kernel_rfl
theorem q3_16 (t : Tin) : sSeq A8 (sSeq A9 sNil) (ev 3 (some (false, pol3)) (some (false, due3)) (some (false, row3)) (some (false, .int 16)) (some (false, tot3)) none) t = .nx (ev 3 (some (false, pol3)) (some (false, due3)) (some (false, row3)) (some (false, .int 16)) (some (false, tot3)) (some (false, .int 18496))) t := by kernel_rfl
theorem q3_17 (t : Tin) : sSeq A8 (sSeq A9 sNil) (ev 3 (some (false, pol3)) (some (false, due3)) (some (false, row3)) (some (false, .int 17)) (some (false, tot3)) none) t = .nx (ev 3 (some (false, pol3)) (some (false, due3)) (some (false, row3)) (some (false, .int 17)) (some (false, tot3)) (some (false, .int 23409))) t := by kernel_rfl
theorem q3_18 (t : Tin) : sSeq A8 (sSeq A9 sNil) (ev 3 (some (false, pol3)) (some (false, due3)) (some (false, row3)) (some (false, .int 18)) (some (false, tot3)) none) t = .nx (ev 3 (some (false, pol3)) (some (false, due3)) (some (false, row3)) (some (false, .int 18)) (some (false, tot3)) (some (false, .int 29241))) t := by kernel_rfl
theorem q3_19 (t : Tin) : sSeq A8 (sSeq A9 sNil) (ev 3 (some (false, pol3)) (some (false, due3)) (some (false, row3)) (some (false, .int 19)) (some (false, tot3)) none) t = .nx (ev 3 (some (false, pol3)) (some (false, due3)) (some (false, row3)) (some (false, .int 19)) (some (false, tot3)) (some (false, .int 36100))) t := by kernel_rfl
theorem c3 (m : Int) (h0 : 0 ≤ m) (h1 : m < 20) (t : Tin) : R7 (ev 3 (some (false, pol3)) (some (false, due3)) (some (false, row3)) (some (false, .int m)) none none) t = .rt (.bl true) t := by
  have hm : m = 0 ∨ m = 1 ∨ m = 2 ∨ m = 3 ∨ m = 4 ∨ m = 5 ∨ m = 6 ∨ m = 7 ∨ m = 8 ∨ m = 9 ∨ m = 10 ∨ m = 11 ∨ m = 12 ∨ m = 13 ∨ m = 14 ∨ m = 15 ∨ m = 16 ∨ m = 17 ∨ m = 18 ∨ m = 19 := by omega
  rcases hm with rfl | rfl | rfl | rfl | rfl | rfl | rfl | rfl | rfl | rfl | rfl | rfl | rfl | rfl | rfl | rfl | rfl | rfl | rfl | rfl
  · exact (sSeq_nx (a7_3 _ t)).trans ((seq2 (q3_0 t)).trans ((sSeq_rt (a10_3 _ _ t))))
  · exact (sSeq_nx (a7_3 _ t)).trans ((seq2 (q3_1 t)).trans ((sSeq_rt (a10_3 _ _ t))))
  · exact (sSeq_nx (a7_3 _ t)).trans ((seq2 (q3_2 t)).trans ((sSeq_rt (a10_3 _ _ t))))
  · exact (sSeq_nx (a7_3 _ t)).trans ((seq2 (q3_3 t)).trans ((sSeq_rt (a10_3 _ _ t))))
  · exact (sSeq_nx (a7_3 _ t)).trans ((seq2 (q3_4 t)).trans ((sSeq_rt (a10_3 _ _ t))))
  · exact (sSeq_nx (a7_3 _ t)).trans ((seq2 (q3_5 t)).trans ((sSeq_rt (a10_3 _ _ t))))
  · exact (sSeq_nx (a7_3 _ t)).trans ((seq2 (q3_6 t)).trans ((sSeq_rt (a10_3 _ _ t))))
  · exact (sSeq_nx (a7_3 _ t)).trans ((seq2 (q3_7 t)).trans ((sSeq_rt (a10_3 _ _ t))))
  · exact (sSeq_nx (a7_3 _ t)).trans ((seq2 (q3_8 t)).trans ((sSeq_rt (a10_3 _ _ t))))
  · exact (sSeq_nx (a7_3 _ t)).trans ((seq2 (q3_9 t)).trans ((sSeq_rt (a10_3 _ _ t))))
  · exact (sSeq_nx (a7_3 _ t)).trans ((seq2 (q3_10 t)).trans ((sSeq_rt (a10_3 _ _ t))))
  · exact (sSeq_nx (a7_3 _ t)).trans ((seq2 (q3_11 t)).trans ((sSeq_rt (a10_3 _ _ t))))
  · exact (sSeq_nx (a7_3 _ t)).trans ((seq2 (q3_12 t)).trans ((sSeq_rt (a10_3 _ _ t))))
  · exact (sSeq_nx (a7_3 _ t)).trans ((seq2 (q3_13 t)).trans ((sSeq_rt (a10_3 _ _ t))))
  · exact (sSeq_nx (a7_3 _ t)).trans ((seq2 (q3_14 t)).trans ((sSeq_rt (a10_3 _ _ t))))
  · exact (sSeq_nx (a7_3 _ t)).trans ((seq2 (q3_15 t)).trans ((sSeq_rt (a10_3 _ _ t))))
  · exact (sSeq_nx (a7_3 _ t)).trans ((seq2 (q3_16 t)).trans ((sSeq_rt (a10_3 _ _ t))))
  · exact (sSeq_nx (a7_3 _ t)).trans ((seq2 (q3_17 t)).trans ((sSeq_rt (a10_3 _ _ t))))
  · exact (sSeq_nx (a7_3 _ t)).trans ((seq2 (q3_18 t)).trans ((sSeq_rt (a10_3 _ _ t))))
  · exact (sSeq_nx (a7_3 _ t)).trans ((seq2 (q3_19 t)).trans ((sSeq_rt (a10_3 _ _ t))))
theorem d3 (t : Tin) : R1 (ev 3 none none none none none none) t = R6 (ev 3 (some (false, pol3)) (some (false, due3)) (some (false, row3)) none none none) t := (sSeq_nx (a1_3 t)).trans ((sSeq_nx (a2_3 t)).trans ((sSeq_nx (a3_3 t)).trans ((sSeq_nx (a4_3 t)).trans (sSeq_nx (a5_3 t)))))
def pol4 : Val := (Val.tup [(Val.tup [(Val.int 0), (Val.int 1)]), (Val.tup [(Val.int 0), (Val.int 1)]), (Val.tup [(Val.int 0), (Val.int 1)]), (Val.tup [(Val.int 0), (Val.int 1)]), (Val.tup [(Val.int 1), (Val.int 1)])])
def due4 : Val := (Val.lst [(Val.int 0), (Val.int 1), (Val.int 14), (Val.int 36), (Val.int 24)])
def row4 : Val := (Val.tup [(Val.tup [(Val.int 0), (Val.int 1)]), (Val.tup [(Val.int 1), (Val.int 1)]), (Val.tup [(Val.int 16), (Val.int 1)]), (Val.tup [(Val.int 81), (Val.int 1)]), (Val.tup [(Val.int 256), (Val.int 1)])])
def tot4 : Val := (Val.tup [(Val.tup [(Val.int 0), (Val.int 1)]), (Val.tup [(Val.int (-1)), (Val.int 30)]), (Val.tup [(Val.int 0), (Val.int 1)]), (Val.tup [(Val.int 1), (Val.int 3)]), (Val.tup [(Val.int (-1)), (Val.int 2)]), (Val.tup [(Val.int 1), (Val.int 5)])])
theorem a1_4 (t : Tin) : A1 (ev 4 none none none none none none) t = .nx (ev 4 (some (false, pol4)) none none none none none) t := by kernel_rfl
theorem a2_4 (t : Tin) : A2 (ev 4 (some (false, pol4)) none none none none none) t = .nx (ev 4 (some (false, pol4)) (some (false, due4)) none none none none) t := by kernel_rfl
theorem a3_4 (t : Tin) : A3 (ev 4 (some (false, pol4)) (some (false, due4)) none none none none) t = .nx (ev 4 (some (false, pol4)) (some (false, due4)) none none none none) t := by kernel_rfl
theorem a4_4 (t : Tin) : A4 (ev 4 (some (false, pol4)) (some (false, due4)) none none none none) t = .nx (ev 4 (some (false, pol4)) (some (false, due4)) (some (false, row4)) none none none) t := by kernel_rfl
theorem a5_4 (t : Tin) : A5 (ev 4 (some (false, pol4)) (some (false, due4)) (some (false, row4)) none none none) t = .nx (ev 4 (some (false, pol4)) (some (false, due4)) (some (false, row4)) none none none) t := by kernel_rfl
theorem a7_4 (o : Option (Bool × Val)) (t : Tin) : A7 (ev 4 (some (false, pol4)) (some (false, due4)) (some (false, row4)) o none none) t = .nx (ev 4 (some (false, pol4)) (some (false, due4)) (some (false, row4)) o (some (false, tot4)) none) t := by kernel_rfl
theorem a10_4 (o q : Option (Bool × Val)) (t : Tin) : A10 (ev 4 (some (false, pol4)) (some (false, due4)) (some (false, row4)) o (some (false, tot4)) q) t = .rt (.bl true) t := by kernel_rfl
theorem q4_0 (t : Tin) : sSeq A8 (sSeq A9 sNil) (ev 4 (some (false, pol4)) (some (false, due4)) (some (false, row4)) (some (false, .int 0)) (some (false, tot4)) none) t = .nx (ev 4 (some (false, pol4)) (some (false, due4)) (some (false, row4)) (some (false, .int 0)) (some (false, tot4)) (some (false, .int 0))) t := by kernel_rfl
theorem q4_1 (t : Tin) : sSeq A8 (sSeq A9 sNil) (ev 4 (some (false, pol4)) (some (false, due4)) (some (false, row4)) (some (false, .int 1)) (some (false, tot4)) none) t = .nx (ev 4 (some (false, pol4)) (some (false, due4)) (some (false, row4)) (some (false, .int 1)) (some (false, tot4)) (some (false, .int 1))) t := by kernel_rfl
theorem q4_2 (t : Tin) : sSeq A8 (sSeq A9 sNil) (ev 4 (some (false, pol4)) (some (false, due4)) (some (false, row4)) (some (false, .int 2)) (some (false, tot4)) none) t = .nx (ev 4 (some (false, pol4)) (some (false, due4)) (some (false, row4)) (some (false, .int 2)) (some (false, tot4)) (some (false, .int 17))) t := by kernel_rfl
theorem q4_3 (t : Tin) : sSeq A8 (sSeq A9 sNil) (ev 4 (some (false, pol4)) (some (false, due4)) (some (false, row4)) (some (false, .int 3)) (some (false, tot4)) none) t = .nx (ev 4 (some (false, pol4)) (some (false, due4)) (some (false, row4)) (some (false, .int 3)) (some (false, tot4)) (some (false, .int 98))) t := by kernel_rfl
theorem q4_4 (t : Tin) : sSeq A8 (sSeq A9 sNil) (ev 4 (some (false, pol4)) (some (false, due4)) (some (false, row4)) (some (false, .int 4)) (some (false, tot4)) none) t = .nx (ev 4 (some (false, pol4)) (some (false, due4)) (some (false, row4)) (some (false, .int 4)) (some (false, tot4)) (some (false, .int 354))) t := by kernel_rfl
theorem q4_5 (t : Tin) : sSeq A8 (sSeq A9 sNil) (ev 4 (some (false, pol4)) (some (false, due4)) (some (false, row4)) (some (false, .int 5)) (some (false, tot4)) none) t = .nx (ev 4 (some (false, pol4)) (some (false, due4)) (some (false, row4)) (some (false, .int 5)) (some (false, tot4)) (some (false, .int 979))) t := by kernel_rfl
theorem q4_6 (t : Tin) : sSeq A8 (sSeq A9 sNil) (ev 4 (some (false, pol4)) (some (false, due4)) (some (false, row4)) (some (false, .int 6)) (some (false, tot4)) none) t = .nx (ev 4 (some (false, pol4)) (some (false, due4)) (some (false, row4)) (some (false, .int 6)) (some (false, tot4)) (some (false, .int 2275))) t := by kernel_rfl
theorem q4_7 (t : Tin) : sSeq A8 (sSeq A9 sNil) (ev 4 (some (false, pol4)) (some (false, due4)) (some (false, row4)) (some (false, .int 7)) (some (false, tot4)) none) t = .nx (ev 4 (some (false, pol4)) (some (false, due4)) (some (false, row4)) (some (false, .int 7)) (some (false, tot4)) (some (false, .int 4676))) t := by kernel_rfl
theorem q4_8 (t : Tin) : sSeq A8 (sSeq A9 sNil) (ev 4 (some (false, pol4)) (some (false, due4)) (some (false, row4)) (some (false, .int 8)) (some (false, tot4)) none) t = .nx (ev 4 (some (false, pol4)) (some (false, due4)) (some (false, row4)) (some (false, .int 8)) (some (false, tot4)) (some (false, .int 8772))) t := by kernel_rfl
theorem q4_9 (t : Tin) : sSeq A8 (sSeq A9 sNil) (ev 4 (some (false, pol4)) (some (false, due4)) (some (false, row4)) (some (false, .int 9)) (some (false, tot4)) none) t = .nx (ev 4 (some (false, pol4)) (some (false, due4)) (some (false, row4)) (some (false, .int 9)) (some (false, tot4)) (some (false, .int 15333))) t := by kernel_rfl
theorem q4_10 (t : Tin) : sSeq A8 (sSeq A9 sNil) (ev 4 (some (false, pol4)) (some (false, due4)) (some (false, row4)) (some (false, .int 10)) (some (false, tot4)) none) t = .nx (ev 4 (some (false, pol4)) (some (false, due4)) (some (false, row4)) (some (false, .int 10)) (some (false, tot4)) (some (false, .int 25333))) t := by kernel_rfl
theorem q4_11 (t : Tin) : sSeq A8 (sSeq A9 sNil) (ev 4 (some (false, pol4)) (some (false, due4)) (some (false, row4)) (some (false, .int 11)) (some (false, tot4)) none) t = .nx (ev 4 (some (false, pol4)) (some (false, due4)) (some (false, row4)) (some (false, .int 11)) (some (false, tot4)) (some (false, .int 39974))) t := by kernel_rfl
theorem q4_12 (t : Tin) : sSeq A8 (sSeq A9 sNil) (ev 4 (some (false, pol4)) (some (false, due4)) (some (false, row4)) (some (false, .int 12)) (some (false, tot4)) none) t = .nx (ev 4 (some (false, pol4)) (some (false, due4)) (some (false, row4)) (some (false, .int 12)) (some (false, tot4)) (some (false, .int 60710))) t := by kernel_rfl
theorem q4_13 (t : Tin) : sSeq A8 (sSeq A9 sNil) (ev 4 (some (false, pol4)) (some (false, due4)) (some (false, row4)) (some (false, .int 13)) (some (false, tot4)) none) t = .nx (ev 4 (some (false, pol4)) (some (false, due4)) (some (false, row4)) (some (false, .int 13)) (some (false, tot4)) (some (false, .int 89271))) t := by kernel_rfl
theorem q4_14 (t : Tin) : sSeq A8 (sSeq A9 sNil) (ev 4 (some (false, pol4)) (some (false, due4)) (some (false, row4)) (some (false, .int 14)) (some (false, tot4)) none) t = .nx (ev 4 (some (false, pol4)) (some (false, due4)) (some (false, row4)) (some (false, .int 14)) (some (false, tot4)) (some (false, .int 127687))) t := by kernel_rfl
theorem q4_15 (t : Tin) : sSeq A8 (sSeq A9 sNil) (ev 4 (some (false, pol4)) (some (false, due4)) (some (false, row4)) (some (false, .int 15)) (some (false, tot4)) none) t = .nx (ev 4 (some (false, pol4)) (some (false, due4)) (some (false, row4)) (some (false, .int 15)) (some (false, tot4)) (some (false, .int 178312))) t := by kernel_rfl
theorem q4_16 (t : Tin) : sSeq A8 (sSeq A9 sNil) (ev 4 (some (false, pol4)) (some (false, due4)) (some (false, row4)) (some (false, .int 16)) (some (false, tot4)) none) t = .nx (ev 4 (some (false, pol4)) (some (false, due4)) (some (false, row4)) (some (false, .int 16)) (some (false, tot4)) (some (false, .int 243848))) t := by kernel_rfl
theorem q4_17 (t : Tin) : sSeq A8 (sSeq A9 sNil) (ev 4 (some (false, pol4)) (some (false, due4)) (some (false, row4)) (some (false, .int 17)) (some (false, tot4)) none) t = .nx (ev 4 (some (false, pol4)) (some (false, due4)) (some (false, row4)) (some (false, .int 17)) (some (false, tot4)) (some (false, .int 327369))) t := by kernel_rfl
theorem q4_18 (t : Tin) : sSeq A8 (sSeq A9 sNil) (ev 4 (some (false, pol4)) (some (false, due4)) (some (false, row4)) (some (false, .int 18)) (some (false, tot4)) none) t = .nx (ev 4 (some (false, pol4)) (some (false, due4)) (some (false, row4)) (some (false, .int 18)) (some (false, tot4)) (some (false, .int 432345))) t := by kernel_rfl
theorem q4_19 (t : Tin) : sSeq A8 (sSeq A9 sNil) (ev 4 (some (false, pol4)) (some (false, due4)) (some (false, row4)) (some (false, .int 19)) (some (false, tot4)) none) t = .nx (ev 4 (some (false, pol4)) (some (false, due4)) (some (false, row4)) (some (false, .int 19)) (some (false, tot4)) (some (false, .int 562666))) t := by kernel_rfl
theorem c4 (m : Int) (h0 : 0 ≤ m) (h1 : m < 20) (t : Tin) : R7 (ev 4 (some (false, pol4)) (some (false, due4)) (some (false, row4)) (some (false, .int m)) none none) t = .rt (.bl true) t := by
  have hm : m = 0 ∨ m = 1 ∨ m = 2 ∨ m = 3 ∨ m = 4 ∨ m = 5 ∨ m = 6 ∨ m = 7 ∨ m = 8 ∨ m = 9 ∨ m = 10 ∨ m = 11 ∨ m = 12 ∨ m = 13 ∨ m = 14 ∨ m = 15 ∨ m = 16 ∨ m = 17 ∨ m = 18 ∨ m = 19 := by omega
  rcases hm with rfl | rfl | rfl | rfl | rfl | rfl | rfl | rfl | rfl | rfl | rfl | rfl | rfl | rfl | rfl | rfl | rfl | rfl | rfl | rfl
  · exact (sSeq_nx (a7_4 _ t)).trans ((seq2 (q4_0 t)).trans ((sSeq_rt (a10_4 _ _ t))))
  · exact (sSeq_nx (a7_4 _ t)).trans ((seq2 (q4_1 t)).trans ((sSeq_rt (a10_4 _ _ t))))
  · exact (sSeq_nx (a7_4 _ t)).trans ((seq2 (q4_2 t)).trans ((sSeq_rt (a10_4 _ _ t))))
  · exact (sSeq_nx (a7_4 _ t)).trans ((seq2 (q4_3 t)).trans ((sSeq_rt (a10_4 _ _ t))))
  · exact (sSeq_nx (a7_4 _ t)).trans ((seq2 (q4_4 t)).trans ((sSeq_rt (a10_4 _ _ t))))
  · exact (sSeq_nx (a7_4 _ t)).trans ((seq2 (q4_5 t)).trans ((sSeq_rt (a10_4 _ _ t))))
  · exact (sSeq_nx (a7_4 _ t)).trans ((seq2 (q4_6 t)).trans ((sSeq_rt (a10_4 _ _ t))))
  · exact (sSeq_nx (a7_4 _ t)).trans ((seq2 (q4_7 t)).trans ((sSeq_rt (a10_4 _ _ t))))
  · exact (sSeq_nx (a7_4 _ t)).trans ((seq2 (q4_8 t)).trans ((sSeq_rt (a10_4 _ _ t))))
  · exact (sSeq_nx (a7_4 _ t)).trans ((seq2 (q4_9 t)).trans ((sSeq_rt (a10_4 _ _ t))))
  · exact (sSeq_nx (a7_4 _ t)).trans ((seq2 (q4_10 t)).trans ((sSeq_rt (a10_4 _ _ t))))
  · exact (sSeq_nx (a7_4 _ t)).trans ((seq2 (q4_11 t)).trans ((sSeq_rt (a10_4 _ _ t))))
  · exact (sSeq_nx (a7_4 _ t)).trans ((seq2 (q4_12 t)).trans ((sSeq_rt (a10_4 _ _ t))))
  · exact (sSeq_nx (a7_4 _ t)).trans ((seq2 (q4_13 t)).trans ((sSeq_rt (a10_4 _ _ t))))
  · exact (sSeq_nx (a7_4 _ t)).trans ((seq2 (q4_14 t)).trans ((sSeq_rt (a10_4 _ _ t))))
  · exact (sSeq_nx (a7_4 _ t)).trans ((seq2 (q4_15 t)).trans ((sSeq_rt (a10_4 _ _ t))))
  · exact (sSeq_nx (a7_4 _ t)).trans ((seq2 (q4_16 t)).trans ((sSeq_rt (a10_4 _ _ t))))
  · exact (sSeq_nx (a7_4 _ t)).trans ((seq2 (q4_17 t)).trans ((sSeq_rt (a10_4 _ _ t))))
  · exact (sSeq_nx (a7_4 _ t)).trans ((seq2 (q4_18 t)).trans ((sSeq_rt (a10_4 _ _ t))))
  · exact (sSeq_nx (a7_4 _ t)).trans ((seq2 (q4_19 t)).trans ((sSeq_rt (a10_4 _ _ t))))
theorem d4 (t : Tin) : R1 (ev 4 none none none none none none) t = R6 (ev 4 (some (false, pol4)) (some (false, due4)) (some (false, row4)) none none none) t := (sSeq_nx (a1_4 t)).trans ((sSeq_nx (a2_4 t)).trans ((sSeq_nx (a3_4 t)).trans ((sSeq_nx (a4_4 t)).trans (sSeq_nx (a5_4 t)))))
def pol5 : Val := (Val.tup [(Val.tup [(Val.int 0), (Val.int 1)]), (Val.tup [(Val.int 0), (Val.int 1)]), (Val.tup [(Val.int 0), (Val.int 1)]), (Val.tup [(Val.int 0), (Val.int 1)]), (Val.tup [(Val.int 0), (Val.int 1)]), (Val.tup [(Val.int 1), (Val.int 1)])])
def due5 : Val := (Val.lst [(Val.int 0), (Val.int 1), (Val.int 30), (Val.int 150), (Val.int 240), (Val.int 120)])
def row5 : Val := (Val.tup [(Val.tup [(Val.int 0), (Val.int 1)]), (Val.tup [(Val.int 1), (Val.int 1)]), (Val.tup [(Val.int 32), (Val.int 1)]), (Val.tup [(Val.int 243), (Val.int 1)]), (Val.tup [(Val.int 1024), (Val.int 1)]), (Val.tup [(Val.int 3125), (Val.int 1)])])
def tot5 : Val := (Val.tup [(Val.tup [(Val.int 0), (Val.int 1)]), (Val.tup [(Val.int 0), (Val.int 1)]), (Val.tup [(Val.int (-1)), (Val.int 12)]), (Val.tup [(Val.int 0), (Val.int 1)]), (Val.tup [(Val.int 5), (Val.int 12)]), (Val.tup [(Val.int (-1)), (Val.int 2)]), (Val.tup [(Val.int 1), (Val.int 6)])])
theorem a1_5 (t : Tin) : A1 (ev 5 none none none none none none) t = .nx (ev 5 (some (false, pol5)) none none none none none) t := by kernel_rfl
theorem a2_5 (t : Tin) : A2 (ev 5 (some (false, pol5)) none none none none none) t = .nx (ev 5 (some (false, pol5)) (some (false, due5)) none none none none) t := by kernel_rfl
theorem a3_5 (t : Tin) : A3 (ev 5 (some (false, pol5)) (some (false, due5)) none none none none) t = .nx (ev 5 (some (false, pol5)) (some (false, due5)) none none none none) t := by kernel_rfl
theorem a4_5 (t : Tin) : A4 (ev 5 (some (false, pol5)) (some (false, due5)) none none none none) t = .nx (ev 5 (some (false, pol5)) (some (false, due5)) (some (false, row5)) none none none) t := by kernel_rfl
theorem a5_5 (t : Tin) : A5 (ev 5 (some (false, pol5)) (some (false, due5)) (some (false, row5)) none none none) t = .nx (ev 5 (some (false, pol5)) (some (false, due5)) (some (false, row5)) none none none) t := by kernel_rfl
theorem a7_5 (o : Option (Bool × Val)) (t : Tin) : A7 (ev 5 (some (false, pol5)) (some (false, due5)) (some (false, row5)) o none none) t = .nx (ev 5 (some (false, pol5)) (some (false, due5)) (some (false, row5)) o (some (false, tot5)) none) t := by kernel_rfl
theorem a10_5 (o q : Option (Bool × Val)) (t : Tin) : A10 (ev 5 (some (false, pol5)) (some (false, due5)) (some (false, row5)) o (some (false, tot5)) q) t = .rt (.bl true) t := by kernel_rfl
theorem q5_0 (t : Tin) : sSeq A8 (sSeq A9 sNil) (ev 5 (some (false, pol5)) (some (false, due5)) (some (false, row5)) (some (false, .int 0)) (some (false, tot5)) none) t = .nx (ev 5 (some (false, pol5)) (some (false, due5)) (some (false, row5)) (some (false, .int 0)) (some (false, tot5)) (some (false, .int 0))) t := by kernel_rfl
theorem q5_1 (t : Tin) : sSeq A8 (sSeq A9 sNil) (ev 5 (some (false, pol5)) (some (false, due5)) (some (false, row5)) (some (false, .int 1)) (some (false, tot5)) none) t = .nx (ev 5 (some (false, pol5)) (some (false, due5)) (some (false, row5)) (some (false, .int 1)) (some (false, tot5)) (some (false, .int 1))) t := by kernel_rfl
theorem q5_2 (t : Tin) : sSeq A8 (sSeq A9 sNil) (ev 5 (some (false, pol5)) (some (false, due5)) (some (false, row5)) (some (false, .int 2)) (some (false, tot5)) none) t = .nx (ev 5 (some (false, pol5)) (some (false, due5)) (some (false, row5)) (some (false, .int 2)) (some (false, tot5)) (some (false, .int 33))) t := by kernel_rfl
theorem q5_3 (t : Tin) : sSeq A8 (sSeq A9 sNil) (ev 5 (some (false, pol5)) (some (false, due5)) (some (false, row5)) (some (false, .int 3)) (some (false, tot5)) none) t = .nx (ev 5 (some (false, pol5)) (some (false, due5)) (some (false, row5)) (some (false, .int 3)) (some (false, tot5)) (some (false, .int 276))) t := by kernel_rfl
theorem q5_4 (t : Tin) : sSeq A8 (sSeq A9 sNil) (ev 5 (some (false, pol5)) (some (false, due5)) (some (false, row5)) (some (false, .int 4)) (some (false, tot5)) none) t = .nx (ev 5 (some (false, pol5)) (some (false, due5)) (some (false, row5)) (some (false, .int 4)) (some (false, tot5)) (some (false, .int 1300))) t := by kernel_rfl
theorem q5_5 (t : Tin) : sSeq A8 (sSeq A9 sNil) (ev 5 (some (false, pol5)) (some (false, due5)) (some (false, row5)) (some (false, .int 5)) (some (false, tot5)) none) t = .nx (ev 5 (some (false, pol5)) (some (false, due5)) (some (false, row5)) (some (false, .int 5)) (some (false, tot5)) (some (false, .int 4425))) t := by kernel_rfl
theorem q5_6 (t : Tin) : sSeq A8 (sSeq A9 sNil) (ev 5 (some (false, pol5)) (some (false, due5)) (some (false, row5)) (some (false, .int 6)) (some (false, tot5)) none) t = .nx (ev 5 (some (false, pol5)) (some (false, due5)) (some (false, row5)) (some (false, .int 6)) (some (false, tot5)) (some (false, .int 12201))) t := by kernel_rfl
theorem q5_7 (t : Tin) : sSeq A8 (sSeq A9 sNil) (ev 5 (some (false, pol5)) (some (false, due5)) (some (false, row5)) (some (false, .int 7)) (some (false, tot5)) none) t = .nx (ev 5 (some (false, pol5)) (some (false, due5)) (some (false, row5)) (some (false, .int 7)) (some (false, tot5)) (some (false, .int 29008))) t := by kernel_rfl
theorem q5_8 (t : Tin) : sSeq A8 (sSeq A9 sNil) (ev 5 (some (false, pol5)) (some (false, due5)) (some (false, row5)) (some (false, .int 8)) (some (false, tot5)) none) t = .nx (ev 5 (some (false, pol5)) (some (false, due5)) (some (false, row5)) (some (false, .int 8)) (some (false, tot5)) (some (false, .int 61776))) t := by kernel_rfl
theorem q5_9 (t : Tin) : sSeq A8 (sSeq A9 sNil) (ev 5 (some (false, pol5)) (some (false, due5)) (some (false, row5)) (some (false, .int 9)) (some (false, tot5)) none) t = .nx (ev 5 (some (false, pol5)) (some (false, due5)) (some (false, row5)) (some (false, .int 9)) (some (false, tot5)) (some (false, .int 120825))) t := by kernel_rfl
theorem q5_10 (t : Tin) : sSeq A8 (sSeq A9 sNil) (ev 5 (some (false, pol5)) (some (false, due5)) (some (false, row5)) (some (false, .int 10)) (some (false, tot5)) none) t = .nx (ev 5 (some (false, pol5)) (some (false, due5)) (some (false, row5)) (some (false, .int 10)) (some (false, tot5)) (some (false, .int 220825))) t := by kernel_rfl
theorem q5_11 (t : Tin) : sSeq A8 (sSeq A9 sNil) (ev 5 (some (false, pol5)) (some (false, due5)) (some (false, row5)) (some (false, .int 11)) (some (false, tot5)) none) t = .nx (ev 5 (some (false, pol5)) (some (false, due5)) (some (false, row5)) (some (false, .int 11)) (some (false, tot5)) (some (false, .int 381876))) t := by kernel_rfl
theorem q5_12 (t : Tin) : sSeq A8 (sSeq A9 sNil) (ev 5 (some (false, pol5)) (some (false, due5)) (some (false, row5)) (some (false, .int 12)) (some (false, tot5)) none) t = .nx (ev 5 (some (false, pol5)) (some (false, due5)) (some (false, row5)) (some (false, .int 12)) (some (false, tot5)) (some (false, .int 630708))) t := by kernel_rfl
theorem q5_13 (t : Tin) : sSeq A8 (sSeq A9 sNil) (ev 5 (some (false, pol5)) (some (false, due5)) (some (false, row5)) (some (false, .int 13)) (some (false, tot5)) none) t = .nx (ev 5 (some (false, pol5)) (some (false, due5)) (some (false, row5)) (some (false, .int 13)) (some (false, tot5)) (some (false, .int 1002001))) t := by kernel_rfl
theorem q5_14 (t : Tin) : sSeq A8 (sSeq A9 sNil) (ev 5 (some (false, pol5)) (some (false, due5)) (some (false, row5)) (some (false, .int 14)) (some (false, tot5)) none) t = .nx (ev 5 (some (false, pol5)) (some (false, due5)) (some (false, row5)) (some (false, .int 14)) (some (false, tot5)) (some (false, .int 1539825))) t := by kernel_rfl
theorem q5_15 (t : Tin) : sSeq A8 (sSeq A9 sNil) (ev 5 (some (false, pol5)) (some (false, due5)) (some (false, row5)) (some (false, .int 15)) (some (false, tot5)) none) t = .nx (ev 5 (some (false, pol5)) (some (false, due5)) (some (false, row5)) (some (false, .int 15)) (some (false, tot5)) (some (false, .int 2299200))) t := by kernel_rfl
theorem q5_16 (t : Tin) : sSeq A8 (sSeq A9 sNil) (ev 5 (some (false, pol5)) (some (false, due5)) (some (false, row5)) (some (false, .int 16)) (some (false, tot5)) none) t = .nx (ev 5 (some (false, pol5)) (some (false, due5)) (some (false, row5)) (some (false, .int 16)) (some (false, tot5)) (some (false, .int 3347776))) t := by kernel_rfl
theorem q5_17 (t : Tin) : sSeq A8 (sSeq A9 sNil) (ev 5 (some (false, pol5)) (some (false, due5)) (some (false, row5)) (some (false, .int 17)) (some (false, tot5)) none) t = .nx (ev 5 (some (false, pol5)) (some (false, due5)) (some (false, row5)) (some (false, .int 17)) (some (false, tot5)) (some (false, .int 4767633))) t := by kernel_rfl
theorem q5_18 (t : Tin) : sSeq A8 (sSeq A9 sNil) (ev 5 (some (false, pol5)) (some (false, due5)) (some (false, row5)) (some (false, .int 18)) (some (false, tot5)) none) t = .nx (ev 5 (some (false, pol5)) (some (false, due5)) (some (false, row5)) (some (false, .int 18)) (some (false, tot5)) (some (false, .int 6657201))) t := by kernel_rfl
theorem q5_19 (t : Tin) : sSeq A8 (sSeq A9 sNil) (ev 5 (some (false, pol5)) (some (false, due5)) (some (false, row5)) (some (false, .int 19)) (some (false, tot5)) none) t = .nx (ev 5 (some (false, pol5)) (some (false, due5)) (some (false, row5)) (some (false, .int 19)) (some (false, tot5)) (some (false, .int 9133300))) t := by kernel_rfl
theorem c5 (m : Int) (h0 : 0 ≤ m) (h1 : m < 20) (t : Tin) : R7 (ev 5 (some (false, pol5)) (some (false, due5)) (some (false, row5)) (some (false, .int m)) none none) t = .rt (.bl true) t := by
  have hm : m = 0 ∨ m = 1 ∨ m = 2 ∨ m = 3 ∨ m = 4 ∨ m = 5 ∨ m = 6 ∨ m = 7 ∨ m = 8 ∨ m = 9 ∨ m = 10 ∨ m = 11 ∨ m = 12 ∨ m = 13 ∨ m = 14 ∨ m = 15 ∨ m = 16 ∨ m = 17 ∨ m = 18 ∨ m = 19 := by omega
  rcases hm with rfl | rfl | rfl | rfl | rfl | rfl | rfl | rfl | rfl | rfl | rfl | rfl | rfl | rfl | rfl | rfl | rfl | rfl | rfl | rfl
  · exact (sSeq_nx (a7_5 _ t)).trans ((seq2 (q5_0 t)).trans ((sSeq_rt (a10_5 _ _ t))))
  · exact (sSeq_nx (a7_5 _ t)).trans ((seq2 (q5_1 t)).trans ((sSeq_rt (a10_5 _ _ t))))
  · exact (sSeq_nx (a7_5 _ t)).trans ((seq2 (q5_2 t)).trans ((sSeq_rt (a10_5 _ _ t))))
  · exact (sSeq_nx (a7_5 _ t)).trans ((seq2 (q5_3 t)).trans ((sSeq_rt (a10_5 _ _ t))))
  · exact (sSeq_nx (a7_5 _ t)).trans ((seq2 (q5_4 t)).trans ((sSeq_rt (a10_5 _ _ t))))
  · exact (sSeq_nx (a7_5 _ t)).trans ((seq2 (q5_5 t)).trans ((sSeq_rt (a10_5 _ _ t))))
  · exact (sSeq_nx (a7_5 _ t)).trans ((seq2 (q5_6 t)).trans ((sSeq_rt (a10_5 _ _ t))))
  · exact (sSeq_nx (a7_5 _ t)).trans ((seq2 (q5_7 t)).trans ((sSeq_rt (a10_5 _ _ t))))
  · exact (sSeq_nx (a7_5 _ t)).trans ((seq2 (q5_8 t)).trans ((sSeq_rt (a10_5 _ _ t))))
  · exact (sSeq_nx (a7_5 _ t)).trans ((seq2 (q5_9 t)).trans ((sSeq_rt (a10_5 _ _ t))))
  · exact (sSeq_nx (a7_5 _ t)).trans ((seq2 (q5_10 t)).trans ((sSeq_rt (a10_5 _ _ t))))
  · exact (sSeq_nx (a7_5 _ t)).trans ((seq2 (q5_11 t)).trans ((sSeq_rt (a10_5 _ _ t))))
  · exact (sSeq_nx (a7_5 _ t)).trans ((seq2 (q5_12 t)).trans ((sSeq_rt (a10_5 _ _ t))))
  · exact (sSeq_nx (a7_5 _ t)).trans ((seq2 (q5_13 t)).trans ((sSeq_rt (a10_5 _ _ t))))
  · exact (sSeq_nx (a7_5 _ t)).trans ((seq2 (q5_14 t)).trans ((sSeq_rt (a10_5 _ _ t))))
  · exact (sSeq_nx (a7_5 _ t)).trans ((seq2 (q5_15 t)).trans ((sSeq_rt (a10_5 _ _ t))))
  · exact (sSeq_nx (a7_5 _ t)).trans ((seq2 (q5_16 t)).trans ((sSeq_rt (a10_5 _ _ t))))
  · exact (sSeq_nx (a7_5 _ t)).trans ((seq2 (q5_17 t)).trans ((sSeq_rt (a10_5 _ _ t))))
  · exact (sSeq_nx (a7_5 _ t)).trans ((seq2 (q5_18 t)).trans ((sSeq_rt (a10_5 _ _ t))))
  · exact (sSeq_nx (a7_5 _ t)).trans ((seq2 (q5_19 t)).trans ((sSeq_rt (a10_5 _ _ t))))
theorem d5 (t : Tin) : R1 (ev 5 none none none none none none) t = R6 (ev 5 (some (false, pol5)) (some (false, due5)) (some (false, row5)) none none none) t := (sSeq_nx (a1_5 t)).trans ((sSeq_nx (a2_5 t)).trans ((sSeq_nx (a3_5 t)).trans ((sSeq_nx (a4_5 t)).trans (sSeq_nx (a5_5 t)))))
def pol6 : Val := (Val.tup [(Val.tup [(Val.int 0), (Val.int 1)]), (Val.tup [(Val.int 0), (Val.int 1)]), (Val.tup [(Val.int 0), (Val.int 1)]), (Val.tup [(Val.int 0), (Val.int 1)]), (Val.tup [(Val.int 0), (Val.int 1)]), (Val.tup [(Val.int 0), (Val.int 1)]), (Val.tup [(Val.int 1), (Val.int 1)])])
def due6 : Val := (Val.lst [(Val.int 0), (Val.int 1), (Val.int 62), (Val.int 540), (Val.int 1560), (Val.int 1800), (Val.int 720)])
def row6 : Val := (Val.tup [(Val.tup [(Val.int 0), (Val.int 1)]), (Val.tup [(Val.int 1), (Val.int 1)]), (Val.tup [(Val.int 64), (Val.int 1)]), (Val.tup [(Val.int 729), (Val.int 1)]), (Val.tup [(Val.int 4096), (Val.int 1)]), (Val.tup [(Val.int 15625), (Val.int 1)]), (Val.tup [(Val.int 46656), (Val.int 1)])])
def tot6 : Val := (Val.tup [(Val.tup [(Val.int 0), (Val.int 1)]), (Val.tup [(Val.int 1), (Val.int 42)]), (Val.tup [(Val.int 0), (Val.int 1)]), (Val.tup [(Val.int (-1)), (Val.int 6)]), (Val.tup [(Val.int 0), (Val.int 1)]), (Val.tup [(Val.int 1), (Val.int 2)]), (Val.tup [(Val.int (-1)), (Val.int 2)]), (Val.tup [(Val.int 1), (Val.int 7)])])
theorem a1_6 (t : Tin) : A1 (ev 6 none none none none none none) t = .nx (ev 6 (some (false, pol6)) none none none none none) t := by kernel_rfl
theorem a2_6 (t : Tin) : A2 (ev 6 (some (false, pol6)) none none none none none) t = .nx (ev 6 (some (false, pol6)) (some (false, due6)) none none none none) t := by kernel_rfl
theorem a3_6 (t : Tin) : A3 (ev 6 (some (false, pol6)) (some (false, due6)) none none none none) t = .nx (ev 6 (some (false, pol6)) (some (false, due6)) none none none none) t := by kernel_rfl
theorem a4_6 (t : Tin) : A4 (ev 6 (some (false, pol6)) (some (false, due6)) none none none none) t = .nx (ev 6 (some (false, pol6)) (some (false, due6)) (some (false, row6)) none none none) t := by kernel_rfl
theorem a5_6 (t : Tin) : A5 (ev 6 (some (false, pol6)) (some (false, due6)) (some (false, row6)) none none none) t = .nx (ev 6 (some (false, pol6)) (some (false, due6)) (some (false, row6)) none none none) t := by kernel_rfl
theorem a7_6 (o : Option (Bool × Val)) (t : Tin) : A7 (ev 6 (some (false, pol6)) (some (false, due6)) (some (false, row6)) o none none) t = .nx (ev 6 (some (false, pol6)) (some (false, due6)) (some (false, row6)) o (some (false, tot6)) none) t := by kernel_rfl
theorem a10_6 (o q : Option (Bool × Val)) (t : Tin) : A10 (ev 6 (some (false, pol6)) (some (false, due6)) (some (false, row6)) o (some (false, tot6)) q) t = .rt (.bl true) t := by kernel_rfl
theorem q6_0 (t : Tin) : sSeq A8 (sSeq A9 sNil) (ev 6 (some (false, pol6)) (some (false, due6)) (some (false, row6)) (some (false, .int 0)) (some (false, tot6)) none) t = .nx (ev 6 (some (false, pol6)) (some (false, due6)) (some (false, row6)) (some (false, .int 0)) (some (false, tot6)) (some (false, .int 0))) t := by kernel_rfl
theorem q6_1 (t : Tin) : sSeq A8 (sSeq A9 sNil) (ev 6 (some (false, pol6)) (some (false, due6)) (some (false, row6)) (some (false, .int 1)) (some (false, tot6)) none) t = .nx (ev 6 (some (false, pol6)) (some (false, due6)) (some (false, row6)) (some (false, .int 1)) (some (false, tot6)) (some (false, .int 1))) t := by kernel_rfl
theorem q6_2 (t : Tin) : sSeq A8 (sSeq A9 sNil) (ev 6 (some (false, pol6)) (some (false, due6)) (some (false, row6)) (some (false, .int 2)) (some (false, tot6)) none) t = .nx (ev 6 (some (false, pol6)) (some (false, due6)) (some (false, row6)) (some (false, .int 2)) (some (false, tot6)) (some (false, .int 65))) t := by kernel_rfl
theorem q6_3 (t : Tin) : sSeq A8 (sSeq A9 sNil) (ev 6 (some (false, pol6)) (some (false, due6)) (some (false, row6)) (some (false, .int 3)) (some (false, tot6)) none) t = .nx (ev 6 (some (false, pol6)) (some (false, due6)) (some (false, row6)) (some (false, .int 3)) (some (false, tot6)) (some (false, .int 794))) t := by kernel_rfl
theorem q6_4 (t : Tin) : sSeq A8 (sSeq A9 sNil) (ev 6 (some (false, pol6)) (some (false, due6)) (some (false, row6)) (some (false, .int 4)) (some (false, tot6)) none) t = .nx (ev 6 (some (false, pol6)) (some (false, due6)) (some (false, row6)) (some (false, .int 4)) (some (false, tot6)) (some (false, .int 4890))) t := by kernel_rfl
theorem q6_5 (t : Tin) : sSeq A8 (sSeq A9 sNil) (ev 6 (some (false, pol6)) (some (false, due6)) (some (false, row6)) (some (false, .int 5)) (some (false, tot6)) none) t = .nx (ev 6 (some (false, pol6)) (some (false, due6)) (some (false, row6)) (some (false, .int 5)) (some (false, tot6)) (some (false, .int 20515))) t := by kernel_rfl
theorem q6_6 (t : Tin) : sSeq A8 (sSeq A9 sNil) (ev 6 (some (false, pol6)) (some (false, due6)) (some (false, row6)) (some (false, .int 6)) (some (false, tot6)) none) t = .nx (ev 6 (some (false, pol6)) (some (false, due6)) (some (false, row6)) (some (false, .int 6)) (some (false, tot6)) (some (false, .int 67171))) t := by kernel_rfl
theorem q6_7 (t : Tin) : sSeq A8 (sSeq A9 sNil) (ev 6 (some (false, pol6)) (some (false, due6)) (some (false, row6)) (some (false, .int 7)) (some (false, tot6)) none) t = .nx (ev 6 (some (false, pol6)) (some (false, due6)) (some (false, row6)) (some (false, .int 7)) (some (false, tot6)) (some (false, .int 184820))) t := by kernel_rfl
theorem q6_8 (t : Tin) : sSeq A8 (sSeq A9 sNil) (ev 6 (some (false, pol6)) (some (false, due6)) (some (false, row6)) (some (false, .int 8)) (some (false, tot6)) none) t = .nx (ev 6 (some (false, pol6)) (some (false, due6)) (some (false, row6)) (some (false, .int 8)) (some (false, tot6)) (some (false, .int 446964))) t := by kernel_rfl
theorem q6_9 (t : Tin) : sSeq A8 (sSeq A9 sNil) (ev 6 (some (false, pol6)) (some (false, due6)) (some (false, row6)) (some (false, .int 9)) (some (false, tot6)) none) t = .nx (ev 6 (some (false, pol6)) (some (false, due6)) (some (false, row6)) (some (false, .int 9)) (some (false, tot6)) (some (false, .int 978405))) t := by kernel_rfl
theorem q6_10 (t : Tin) : sSeq A8 (sSeq A9 sNil) (ev 6 (some (false, pol6)) (some (false, due6)) (some (false, row6)) (some (false, .int 10)) (some (false, tot6)) none) t = .nx (ev 6 (some (false, pol6)) (some (false, due6)) (some (false, row6)) (some (false, .int 10)) (some (false, tot6)) (some (false, .int 1978405))) t := by kernel_rfl
theorem q6_11 (t : Tin) : sSeq A8 (sSeq A9 sNil) (ev 6 (some (false, pol6)) (some (false, due6)) (some (false, row6)) (some (false, .int 11)) (some (false, tot6)) none) t = .nx (ev 6 (some (false, pol6)) (some (false, due6)) (some (false, row6)) (some (false, .int 11)) (some (false, tot6)) (some (false, .int 3749966))) t := by kernel_rfl
theorem q6_12 (t : Tin) : sSeq A8 (sSeq A9 sNil) (ev 6 (some (false, pol6)) (some (false, due6)) (some (false, row6)) (some (false, .int 12)) (some (false, tot6)) none) t = .nx (ev 6 (some (false, pol6)) (some (false, due6)) (some (false, row6)) (some (false, .int 12)) (some (false, tot6)) (some (false, .int 6735950))) t := by kernel_rfl
theorem q6_13 (t : Tin) : sSeq A8 (sSeq A9 sNil) (ev 6 (some (false, pol6)) (some (false, due6)) (some (false, row6)) (some (false, .int 13)) (some (false, tot6)) none) t = .nx (ev 6 (some (false, pol6)) (some (false, due6)) (some (false, row6)) (some (false, .int 13)) (some (false, tot6)) (some (false, .int 11562759))) t := by kernel_rfl
theorem q6_14 (t : Tin) : sSeq A8 (sSeq A9 sNil) (ev 6 (some (false, pol6)) (some (false, due6)) (some (false, row6)) (some (false, .int 14)) (some (false, tot6)) none) t = .nx (ev 6 (some (false, pol6)) (some (false, due6)) (some (false, row6)) (some (false, .int 14)) (some (false, tot6)) (some (false, .int 19092295))) t := by kernel_rfl
theorem q6_15 (t : Tin) : sSeq A8 (sSeq A9 sNil) (ev 6 (some (false, pol6)) (some (false, due6)) (some (false, row6)) (some (false, .int 15)) (some (false, tot6)) none) t = .nx (ev 6 (some (false, pol6)) (some (false, due6)) (some (false, row6)) (some (false, .int 15)) (some (false, tot6)) (some (false, .int 30482920))) t := by kernel_rfl
theorem q6_16 (t : Tin) : sSeq A8 (sSeq A9 sNil) (ev 6 (some (false, pol6)) (some (false, due6)) (some (false, row6)) (some (false, .int 16)) (some (false, tot6)) none) t = .nx (ev 6 (some (false, pol6)) (some (false, due6)) (some (false, row6)) (some (false, .int 16)) (some (false, tot6)) (some (false, .int 47260136))) t := by kernel_rfl
theorem q6_17 (t : Tin) : sSeq A8 (sSeq A9 sNil) (ev 6 (some (false, pol6)) (some (false, due6)) (some (false, row6)) (some (false, .int 17)) (some (false, tot6)) none) t = .nx (ev 6 (some (false, pol6)) (some (false, due6)) (some (false, row6)) (some (false, .int 17)) (some (false, tot6)) (some (false, .int 71397705))) t := by kernel_rfl
theorem q6_18 (t : Tin) : sSeq A8 (sSeq A9 sNil) (ev 6 (some (false, pol6)) (some (false, due6)) (some (false, row6)) (some (false, .int 18)) (some (false, tot6)) none) t = .nx (ev 6 (some (false, pol6)) (some (false, due6)) (some (false, row6)) (some (false, .int 18)) (some (false, tot6)) (some (false, .int 105409929))) t := by kernel_rfl
theorem q6_19 (t : Tin) : sSeq A8 (sSeq A9 sNil) (ev 6 (some (false, pol6)) (some (false, due6)) (some (false, row6)) (some (false, .int 19)) (some (false, tot6)) none) t = .nx (ev 6 (some (false, pol6)) (some (false, due6)) (some (false, row6)) (some (false, .int 19)) (some (false, tot6)) (some (false, .int 152455810))) t := by kernel_rfl
theorem c6 (m : Int) (h0 : 0 ≤ m) (h1 : m < 20) (t : Tin) : R7 (ev 6 (some (false, pol6)) (some (false, due6)) (some (false, row6)) (some (false, .int m)) none none) t = .rt (.bl true) t := by
  have hm : m = 0 ∨ m = 1 ∨ m = 2 ∨ m = 3 ∨ m = 4 ∨ m = 5 ∨ m = 6 ∨ m = 7 ∨ m = 8 ∨ m = 9 ∨ m = 10 ∨ m = 11 ∨ m = 12 ∨ m = 13 ∨ m = 14 ∨ m = 15 ∨ m = 16 ∨ m = 17 ∨ m = 18 ∨ m = 19 := by omega
  rcases hm with rfl | rfl | rfl | rfl | rfl | rfl | rfl | rfl | rfl | rfl | rfl | rfl | rfl | rfl | rfl | rfl | rfl | rfl | rfl | rfl
  · exact (sSeq_nx (a7_6 _ t)).trans ((seq2 (q6_0 t)).trans ((sSeq_rt (a10_6 _ _ t))))
  · exact (sSeq_nx (a7_6 _ t)).trans ((seq2 (q6_1 t)).trans ((sSeq_rt (a10_6 _ _ t))))
  · exact (sSeq_nx (a7_6 _ t)).trans ((seq2 (q6_2 t)).trans ((sSeq_rt (a10_6 _ _ t))))
  · exact (sSeq_nx (a7_6 _ t)).trans ((seq2 (q6_3 t)).trans ((sSeq_rt (a10_6 _ _ t))))
  · exact (sSeq_nx (a7_6 _ t)).trans ((seq2 (q6_4 t)).trans ((sSeq_rt (a10_6 _ _ t))))
  · exact (sSeq_nx (a7_6 _ t)).trans ((seq2 (q6_5 t)).trans ((sSeq_rt (a10_6 _ _ t))))
  · exact (sSeq_nx (a7_6 _ t)).trans ((seq2 (q6_6 t)).trans ((sSeq_rt (a10_6 _ _ t))))
  · exact (sSeq_nx (a7_6 _ t)).trans ((seq2 (q6_7 t)).trans ((sSeq_rt (a10_6 _ _ t))))
  · exact (sSeq_nx (a7_6 _ t)).trans ((seq2 (q6_8 t)).trans ((sSeq_rt (a10_6 _ _ t))))
  · exact (sSeq_nx (a7_6 _ t)).trans ((seq2 (q6_9 t)).trans ((sSeq_rt (a10_6 _ _ t))))
  · exact (sSeq_nx (a7_6 _ t)).trans ((seq2 (q6_10 t)).trans ((sSeq_rt (a10_6 _ _ t))))
  · exact (sSeq_nx (a7_6 _ t)).trans ((seq2 (q6_11 t)).trans ((sSeq_rt (a10_6 _ _ t))))
  · exact (sSeq_nx (a7_6 _ t)).trans ((seq2 (q6_12 t)).trans ((sSeq_rt (a10_6 _ _ t))))
  · exact (sSeq_nx (a7_6 _ t)).trans ((seq2 (q6_13 t)).trans ((sSeq_rt (a10_6 _ _ t))))
  · exact (sSeq_nx (a7_6 _ t)).trans ((seq2 (q6_14 t)).trans ((sSeq_rt (a10_6 _ _ t))))
  · exact (sSeq_nx (a7_6 _ t)).trans ((seq2 (q6_15 t)).trans ((sSeq_rt (a10_6 _ _ t))))
  · exact (sSeq_nx (a7_6 _ t)).trans ((seq2 (q6_16 t)).trans ((sSeq_rt (a10_6 _ _ t))))
  · exact (sSeq_nx (a7_6 _ t)).trans ((seq2 (q6_17 t)).trans ((sSeq_rt (a10_6 _ _ t))))
  · exact (sSeq_nx (a7_6 _ t)).trans ((seq2 (q6_18 t)).trans ((sSeq_rt (a10_6 _ _ t))))
  · exact (sSeq_nx (a7_6 _ t)).trans ((seq2 (q6_19 t)).trans ((sSeq_rt (a10_6 _ _ t))))
theorem d6 (t : Tin) : R1 (ev 6 none none none none none none) t = R6 (ev 6 (some (false, pol6)) (some (false, due6)) (some (false, row6)) none none none) t := (sSeq_nx (a1_6 t)).trans ((sSeq_nx (a2_6 t)).trans ((sSeq_nx (a3_6 t)).trans ((sSeq_nx (a4_6 t)).trans (sSeq_nx (a5_6 t)))))
def pol7 : Val := (Val.tup [(Val.tup [(Val.int 0), (Val.int 1)]), (Val.tup [(Val.int 0), (Val.int 1)]), (Val.tup [(Val.int 0), (Val.int 1)]), (Val.tup [(Val.int 0), (Val.int 1)]), (Val.tup [(Val.int 0), (Val.int 1)]), (Val.tup [(Val.int 0), (Val.int 1)]), (Val.tup [(Val.int 0), (Val.int 1)]), (Val.tup [(Val.int 1), (Val.int 1)])])
def due7 : Val := (Val.lst [(Val.int 0), (Val.int 1), (Val.int 126), (Val.int 1806), (Val.int 8400), (Val.int 16800), (Val.int 15120), (Val.int 5040)])
def row7 : Val := (Val.tup [(Val.tup [(Val.int 0), (Val.int 1)]), (Val.tup [(Val.int 1), (Val.int 1)]), (Val.tup [(Val.int 128), (Val.int 1)]), (Val.tup [(Val.int 2187), (Val.int 1)]), (Val.tup [(Val.int 16384), (Val.int 1)]), (Val.tup [(Val.int 78125), (Val.int 1)]), (Val.tup [(Val.int 279936), (Val.int 1)]), (Val.tup [(Val.int 823543), (Val.int 1)])])
def tot7 : Val := (Val.tup [(Val.tup [(Val.int 0), (Val.int 1)]), (Val.tup [(Val.int 0), (Val.int 1)]), (Val.tup [(Val.int 1), (Val.int 12)]), (Val.tup [(Val.int 0), (Val.int 1)]), (Val.tup [(Val.int (-7)), (Val.int 24)]), (Val.tup [(Val.int 0), (Val.int 1)]), (Val.tup [(Val.int 7), (Val.int 12)]), (Val.tup [(Val.int (-1)), (Val.int 2)]), (Val.tup [(Val.int 1), (Val.int 8)])])
theorem a1_7 (t : Tin) : A1 (ev 7 none none none none none none) t = .nx (ev 7 (some (false, pol7)) none none none none none) t := by kernel_rfl
theorem a2_7 (t : Tin) : A2 (ev 7 (some (false, pol7)) none none none none none) t = .nx (ev 7 (some (false, pol7)) (some (false, due7)) none none none none) t := by kernel_rfl
theorem a3_7 (t : Tin) : A3 (ev 7 (some (false, pol7)) (some (false, due7)) none none none none) t = .nx (ev 7 (some (false, pol7)) (some (false, due7)) none none none none) t := by kernel_rfl
theorem a4_7 (t : Tin) : A4 (ev 7 (some (false, pol7)) (some (false, due7)) none none none none) t = .nx (ev 7 (some (false, pol7)) (some (false, due7)) (some (false, row7)) none none none) t := by kernel_rfl
theorem a5_7 (t : Tin) : A5 (ev 7 (some (false, pol7)) (some (false, due7)) (some (false, row7)) none none none) t = .nx (ev 7 (some (false, pol7)) (some (false, due7)) (some (false, row7)) none none none) t := by kernel_rfl
theorem a7_7 (o : Option (Bool × Val)) (t : Tin) : A7 (ev 7 (some (false, pol7)) (some (false, due7)) (some (false, row7)) o none none) t = .nx (ev 7 (some (false, pol7)) (some (false, due7)) (some (false, row7)) o (some (false, tot7)) none) t := by kernel_rfl
theorem a10_7 (o q : Option (Bool × Val)) (t : Tin) : A10 (ev 7 (some (false, pol7)) (some (false, due7)) (some (false, row7)) o (some (false, tot7)) q) t = .rt (.bl true) t := by kernel_rfl
theorem q7_0 (t : Tin) : sSeq A8 (sSeq A9 sNil) (ev 7 (some (false, pol7)) (some (false, due7)) (some (false, row7)) (some (false, .int 0)) (some (false, tot7)) none) t = .nx (ev 7 (some (false, pol7)) (some (false, due7)) (some (false, row7)) (some (false, .int 0)) (some (false, tot7)) (some (false, .int 0))) t := by kernel_rfl
theorem q7_1 (t : Tin) : sSeq A8 (sSeq A9 sNil) (ev 7 (some (false, pol7)) (some (false, due7)) (some (false, row7)) (some (false, .int 1)) (some (false, tot7)) none) t = .nx (ev 7 (some (false, pol7)) (some (false, due7)) (some (false, row7)) (some (false, .int 1)) (some (false, tot7)) (some (false, .int 1))) t := by kernel_rfl
theorem q7_2 (t : Tin) : sSeq A8 (sSeq A9 sNil) (ev 7 (some (false, pol7)) (some (false, due7)) (some (false, row7)) (some (false, .int 2)) (some (false, tot7)) none) t = .nx (ev 7 (some (false, pol7)) (some (false, due7)) (some (false, row7)) (some (false, .int 2)) (some (false, tot7)) (some (false, .int 129))) t := by kernel_rfl
theorem q7_3 (t : Tin) : sSeq A8 (sSeq A9 sNil) (ev 7 (some (false, pol7)) (some (false, due7)) (some (false, row7)) (some (false, .int 3)) (some (false, tot7)) none) t = .nx (ev 7 (some (false, pol7)) (some (false, due7)) (some (false, row7)) (some (false, .int 3)) (some (false, tot7)) (some (false, .int 2316))) t := by kernel_rfl
theorem q7_4 (t : Tin) : sSeq A8 (sSeq A9 sNil) (ev 7 (some (false, pol7)) (some (false, due7)) (some (false, row7)) (some (false, .int 4)) (some (false, tot7)) none) t = .nx (ev 7 (some (false, pol7)) (some (false, due7)) (some (false, row7)) (some (false, .int 4)) (some (false, tot7)) (some (false, .int 18700))) t := by kernel_rfl
theorem q7_5 (t : Tin) : sSeq A8 (sSeq A9 sNil) (ev 7 (some (false, pol7)) (some (false, due7)) (some (false, row7)) (some (false, .int 5)) (some (false, tot7)) none) t = .nx (ev 7 (some (false, pol7)) (some (false, due7)) (some (false, row7)) (some (false, .int 5)) (some (false, tot7)) (some (false, .int 96825))) t := by kernel_rfl
theorem q7_6 (t : Tin) : sSeq A8 (sSeq A9 sNil) (ev 7 (some (false, pol7)) (some (false, due7)) (some (false, row7)) (some (false, .int 6)) (some (false, tot7)) none) t = .nx (ev 7 (some (false, pol7)) (some (false, due7)) (some (false, row7)) (some (false, .int 6)) (some (false, tot7)) (some (false, .int 376761))) t := by kernel_rfl
theorem q7_7 (t : Tin) : sSeq A8 (sSeq A9 sNil) (ev 7 (some (false, pol7)) (some (false, due7)) (some (false, row7)) (some (false, .int 7)) (some (false, tot7)) none) t = .nx (ev 7 (some (false, pol7)) (some (false, due7)) (some (false, row7)) (some (false, .int 7)) (some (false, tot7)) (some (false, .int 1200304))) t := by kernel_rfl
theorem q7_8 (t : Tin) : sSeq A8 (sSeq A9 sNil) (ev 7 (some (false, pol7)) (some (false, due7)) (some (false, row7)) (some (false, .int 8)) (some (false, tot7)) none) t = .nx (ev 7 (some (false, pol7)) (some (false, due7)) (some (false, row7)) (some (false, .int 8)) (some (false, tot7)) (some (false, .int 3297456))) t := by kernel_rfl
theorem q7_9 (t : Tin) : sSeq A8 (sSeq A9 sNil) (ev 7 (some (false, pol7)) (some (false, due7)) (some (false, row7)) (some (false, .int 9)) (some (false, tot7)) none) t = .nx (ev 7 (some (false, pol7)) (some (false, due7)) (some (false, row7)) (some (false, .int 9)) (some (false, tot7)) (some (false, .int 8080425))) t := by kernel_rfl
theorem q7_10 (t : Tin) : sSeq A8 (sSeq A9 sNil) (ev 7 (some (false, pol7)) (some (false, due7)) (some (false, row7)) (some (false, .int 10)) (some (false, tot7)) none) t = .nx (ev 7 (some (false, pol7)) (some (false, due7)) (some (false, row7)) (some (false, .int 10)) (some (false, tot7)) (some (false, .int 18080425))) t := by kernel_rfl
theorem q7_11 (t : Tin) : sSeq A8 (sSeq A9 sNil) (ev 7 (some (false, pol7)) (some (false, due7)) (some (false, row7)) (some (false, .int 11)) (some (false, tot7)) none) t = .nx (ev 7 (some (false, pol7)) (some (false, due7)) (some (false, row7)) (some (false, .int 11)) (some (false, tot7)) (some (false, .int 37567596))) t := by kernel_rfl
theorem q7_12 (t : Tin) : sSeq A8 (sSeq A9 sNil) (ev 7 (some (false, pol7)) (some (false, due7)) (some (false, row7)) (some (false, .int 12)) (some (false, tot7)) none) t = .nx (ev 7 (some (false, pol7)) (some (false, due7)) (some (false, row7)) (some (false, .int 12)) (some (false, tot7)) (some (false, .int 73399404))) t := by kernel_rfl
theorem q7_13 (t : Tin) : sSeq A8 (sSeq A9 sNil) (ev 7 (some (false, pol7)) (some (false, due7)) (some (false, row7)) (some (false, .int 13)) (some (false, tot7)) none) t = .nx (ev 7 (some (false, pol7)) (some (false, due7)) (some (false, row7)) (some (false, .int 13)) (some (false, tot7)) (some (false, .int 136147921))) t := by kernel_rfl
theorem q7_14 (t : Tin) : sSeq A8 (sSeq A9 sNil) (ev 7 (some (false, pol7)) (some (false, due7)) (some (false, row7)) (some (false, .int 14)) (some (false, tot7)) none) t = .nx (ev 7 (some (false, pol7)) (some (false, due7)) (some (false, row7)) (some (false, .int 14)) (some (false, tot7)) (some (false, .int 241561425))) t := by kernel_rfl
theorem q7_15 (t : Tin) : sSeq A8 (sSeq A9 sNil) (ev 7 (some (false, pol7)) (some (false, due7)) (some (false, row7)) (some (false, .int 15)) (some (false, tot7)) none) t = .nx (ev 7 (some (false, pol7)) (some (false, due7)) (some (false, row7)) (some (false, .int 15)) (some (false, tot7)) (some (false, .int 412420800))) t := by kernel_rfl
theorem q7_16 (t : Tin) : sSeq A8 (sSeq A9 sNil) (ev 7 (some (false, pol7)) (some (false, due7)) (some (false, row7)) (some (false, .int 16)) (some (false, tot7)) none) t = .nx (ev 7 (some (false, pol7)) (some (false, due7)) (some (false, row7)) (some (false, .int 16)) (some (false, tot7)) (some (false, .int 680856256))) t := by kernel_rfl
theorem q7_17 (t : Tin) : sSeq A8 (sSeq A9 sNil) (ev 7 (some (false, pol7)) (some (false, due7)) (some (false, row7)) (some (false, .int 17)) (some (false, tot7)) none) t = .nx (ev 7 (some (false, pol7)) (some (false, due7)) (some (false, row7)) (some (false, .int 17)) (some (false, tot7)) (some (false, .int 1091194929))) t := by kernel_rfl
theorem q7_18 (t : Tin) : sSeq A8 (sSeq A9 sNil) (ev 7 (some (false, pol7)) (some (false, due7)) (some (false, row7)) (some (false, .int 18)) (some (false, tot7)) none) t = .nx (ev 7 (some (false, pol7)) (some (false, due7)) (some (false, row7)) (some (false, .int 18)) (some (false, tot7)) (some (false, .int 1703414961))) t := by kernel_rfl
theorem q7_19 (t : Tin) : sSeq A8 (sSeq A9 sNil) (ev 7 (some (false, pol7)) (some (false, due7)) (some (false, row7)) (some (false, .int 19)) (some (false, tot7)) none) t = .nx (ev 7 (some (false, pol7)) (some (false, due7)) (some (false, row7)) (some (false, .int 19)) (some (false, tot7)) (some (false, .int 2597286700))) t := by kernel_rfl
theorem c7 (m : Int) (h0 : 0 ≤ m) (h1 : m < 20) (t : Tin) : R7 (ev 7 (some (false, pol7)) (some (false, due7)) (some (false, row7)) (some (false, .int m)) none none) t = .rt (.bl true) t := by
  have hm : m = 0 ∨ m = 1 ∨ m = 2 ∨ m = 3 ∨ m = 4 ∨ m = 5 ∨ m = 6 ∨ m = 7 ∨ m = 8 ∨ m = 9 ∨ m = 10 ∨ m = 11 ∨ m = 12 ∨ m = 13 ∨ m = 14 ∨ m = 15 ∨ m = 16 ∨ m = 17 ∨ m = 18 ∨ m = 19 := by omega
  rcases hm with rfl | rfl | rfl | rfl | rfl | rfl | rfl | rfl | rfl | rfl | rfl | rfl | rfl | rfl | rfl | rfl | rfl | rfl | rfl | rfl
  · exact (sSeq_nx (a7_7 _ t)).trans ((seq2 (q7_0 t)).trans ((sSeq_rt (a10_7 _ _ t))))
  · exact (sSeq_nx (a7_7 _ t)).trans ((seq2 (q7_1 t)).trans ((sSeq_rt (a10_7 _ _ t))))
  · exact (sSeq_nx (a7_7 _ t)).trans ((seq2 (q7_2 t)).trans ((sSeq_rt (a10_7 _ _ t))))
  · exact (sSeq_nx (a7_7 _ t)).trans ((seq2 (q7_3 t)).trans ((sSeq_rt (a10_7 _ _ t))))
  · exact (sSeq_nx (a7_7 _ t)).trans ((seq2 (q7_4 t)).trans ((sSeq_rt (a10_7 _ _ t))))
  · exact (sSeq_nx (a7_7 _ t)).trans ((seq2 (q7_5 t)).trans ((sSeq_rt (a10_7 _ _ t))))
  · exact (sSeq_nx (a7_7 _ t)).trans ((seq2 (q7_6 t)).trans ((sSeq_rt (a10_7 _ _ t))))
  · exact (sSeq_nx (a7_7 _ t)).trans ((seq2 (q7_7 t)).trans ((sSeq_rt (a10_7 _ _ t))))
  · exact (sSeq_nx (a7_7 _ t)).trans ((seq2 (q7_8 t)).trans ((sSeq_rt (a10_7 _ _ t))))
  · exact (sSeq_nx (a7_7 _ t)).trans ((seq2 (q7_9 t)).trans ((sSeq_rt (a10_7 _ _ t))))
  · exact (sSeq_nx (a7_7 _ t)).trans ((seq2 (q7_10 t)).trans ((sSeq_rt (a10_7 _ _ t))))
  · exact (sSeq_nx (a7_7 _ t)).trans ((seq2 (q7_11 t)).trans ((sSeq_rt (a10_7 _ _ t))))
  · exact (sSeq_nx (a7_7 _ t)).trans ((seq2 (q7_12 t)).trans ((sSeq_rt (a10_7 _ _ t))))
  · exact (sSeq_nx (a7_7 _ t)).trans ((seq2 (q7_13 t)).trans ((sSeq_rt (a10_7 _ _ t))))
  · exact (sSeq_nx (a7_7 _ t)).trans ((seq2 (q7_14 t)).trans ((sSeq_rt (a10_7 _ _ t))))
  · exact (sSeq_nx (a7_7 _ t)).trans ((seq2 (q7_15 t)).trans ((sSeq_rt (a10_7 _ _ t))))
  · exact (sSeq_nx (a7_7 _ t)).trans ((seq2 (q7_16 t)).trans ((sSeq_rt (a10_7 _ _ t))))
  · exact (sSeq_nx (a7_7 _ t)).trans ((seq2 (q7_17 t)).trans ((sSeq_rt (a10_7 _ _ t))))
  · exact (sSeq_nx (a7_7 _ t)).trans ((seq2 (q7_18 t)).trans ((sSeq_rt (a10_7 _ _ t))))
  · exact (sSeq_nx (a7_7 _ t)).trans ((seq2 (q7_19 t)).trans ((sSeq_rt (a10_7 _ _ t))))
theorem d7 (t : Tin) : R1 (ev 7 none none none none none none) t = R6 (ev 7 (some (false, pol7)) (some (false, due7)) (some (false, row7)) none none none) t := (sSeq_nx (a1_7 t)).trans ((sSeq_nx (a2_7 t)).trans ((sSeq_nx (a3_7 t)).trans ((sSeq_nx (a4_7 t)).trans (sSeq_nx (a5_7 t)))))
def pol8 : Val := (Val.tup [(Val.tup [(Val.int 0), (Val.int 1)]), (Val.tup [(Val.int 0), (Val.int 1)]), (Val.tup [(Val.int 0), (Val.int 1)]), (Val.tup [(Val.int 0), (Val.int 1)]), (Val.tup [(Val.int 0), (Val.int 1)]), (Val.tup [(Val.int 0), (Val.int 1)]), (Val.tup [(Val.int 0), (Val.int 1)]), (Val.tup [(Val.int 0), (Val.int 1)]), (Val.tup [(Val.int 1), (Val.int 1)])])
def due8 : Val := (Val.lst [(Val.int 0), (Val.int 1), (Val.int 254), (Val.int 5796), (Val.int 40824), (Val.int 126000), (Val.int 191520), (Val.int 141120), (Val.int 40320)])
def row8 : Val := (Val.tup [(Val.tup [(Val.int 0), (Val.int 1)]), (Val.tup [(Val.int 1), (Val.int 1)]), (Val.tup [(Val.int 256), (Val.int 1)]), (Val.tup [(Val.int 6561), (Val.int 1)]), (Val.tup [(Val.int 65536), (Val.int 1)]), (Val.tup [(Val.int 390625), (Val.int 1)]), (Val.tup [(Val.int 1679616), (Val.int 1)]), (Val.tup [(Val.int 5764801), (Val.int 1)]), (Val.tup [(Val.int 16777216), (Val.int 1)])])
def tot8 : Val := (Val.tup [(Val.tup [(Val.int 0), (Val.int 1)]), (Val.tup [(Val.int (-1)), (Val.int 30)]), (Val.tup [(Val.int 0), (Val.int 1)]), (Val.tup [(Val.int 2), (Val.int 9)]), (Val.tup [(Val.int 0), (Val.int 1)]), (Val.tup [(Val.int (-7)), (Val.int 15)]), (Val.tup [(Val.int 0), (Val.int 1)]), (Val.tup [(Val.int 2), (Val.int 3)]), (Val.tup [(Val.int (-1)), (Val.int 2)]), (Val.tup [(Val.int 1), (Val.int 9)])])
theorem a1_8 (t : Tin) : A1 (ev 8 none none none none none none) t = .nx (ev 8 (some (false, pol8)) none none none none none) t := by kernel_rfl
theorem a2_8 (t : Tin) : A2 (ev 8 (some (false, pol8)) none none none none none) t = .nx (ev 8 (some (false, pol8)) (some (false, due8)) none none none none) t := by kernel_rfl
theorem a3_8 (t : Tin) : A3 (ev 8 (some (false, pol8)) (some (false, due8)) none none none none) t = .nx (ev 8 (some (false, pol8)) (some (false, due8)) none none none none) t := by kernel_rfl
theorem a4_8 (t : Tin) : A4 (ev 8 (some (false, pol8)) (some (false, due8)) none none none none) t = .nx (ev 8 (some (false, pol8)) (some (false, due8)) (some (false, row8)) none none none) t := by kernel_rfl
theorem a5_8 (t : Tin) : A5 (ev 8 (some (false, pol8)) (some (false, due8)) (some (false, row8)) none none none) t = .nx (ev 8 (some (false, pol8)) (some (false, due8)) (some (false, row8)) none none none) t := by kernel_rfl
theorem a7_8 (o : Option (Bool × Val)) (t : Tin) : A7 (ev 8 (some (false, pol8)) (some (false, due8)) (some (false, row8)) o none none) t = .nx (ev 8 (some (false, pol8)) (some (false, due8)) (some (false, row8)) o (some (false, tot8)) none) t := by kernel_rfl
theorem a10_8 (o q : Option (Bool × Val)) (t : Tin) : A10 (ev 8 (some (false, pol8)) (some (false, due8)) (some (false, row8)) o (some (false, tot8)) q) t = .rt (.bl true) t := by kernel_rfl
theorem q8_0 (t : Tin) : sSeq A8 (sSeq A9 sNil) (ev 8 (some (false, pol8)) (some (false, due8)) (some (false, row8)) (some (false, .int 0)) (some (false, tot8)) none) t = .nx (ev 8 (some (false, pol8)) (some (false, due8)) (some (false, row8)) (some (false, .int 0)) (some (false, tot8)) (some (false, .int 0))) t := by kernel_rfl
theorem q8_1 (t : Tin) : sSeq A8 (sSeq A9 sNil) (ev 8 (some (false, pol8)) (some (false, due8)) (some (false, row8)) (some (false, .int 1)) (some (false, tot8)) none) t = .nx (ev 8 (some (false, pol8)) (some (false, due8)) (some (false, row8)) (some (false, .int 1)) (some (false, tot8)) (some (false, .int 1))) t := by kernel_rfl
theorem q8_2 (t : Tin) : sSeq A8 (sSeq A9 sNil) (ev 8 (some (false, pol8)) (some (false, due8)) (some (false, row8)) (some (false, .int 2)) (some (false, tot8)) none) t = .nx (ev 8 (some (false, pol8)) (some (false, due8)) (some (false, row8)) (some (false, .int 2)) (some (false, tot8)) (some (false, .int 257))) t := by kernel_rfl
theorem q8_3 (t : Tin) : sSeq A8 (sSeq A9 sNil) (ev 8 (some (false, pol8)) (some (false, due8)) (some (false, row8)) (some (false, .int 3)) (some (false, tot8)) none) t = .nx (ev 8 (some (false, pol8)) (some (false, due8)) (some (false, row8)) (some (false, .int 3)) (some (false, tot8)) (some (false, .int 6818))) t := by kernel_rfl
theorem q8_4 (t : Tin) : sSeq A8 (sSeq A9 sNil) (ev 8 (some (false, pol8)) (some (false, due8)) (some (false, row8)) (some (false, .int 4)) (some (false, tot8)) none) t = .nx (ev 8 (some (false, pol8)) (some (false, due8)) (some (false, row8)) (some (false, .int 4)) (some (false, tot8)) (some (false, .int 72354))) t := by kernel_rfl
theorem q8_5 (t : Tin) : sSeq A8 (sSeq A9 sNil) (ev 8 (some (false, pol8)) (some (false, due8)) (some (false, row8)) (some (false, .int 5)) (some (false, tot8)) none) t = .nx (ev 8 (some (false, pol8)) (some (false, due8)) (some (false, row8)) (some (false, .int 5)) (some (false, tot8)) (some (false, .int 462979))) t := by kernel_rfl
theorem q8_6 (t : Tin) : sSeq A8 (sSeq A9 sNil) (ev 8 (some (false, pol8)) (some (false, due8)) (some (false, row8)) (some (false, .int 6)) (some (false, tot8)) none) t = .nx (ev 8 (some (false, pol8)) (some (false, due8)) (some (false, row8)) (some (false, .int 6)) (some (false, tot8)) (some (false, .int 2142595))) t := by kernel_rfl
theorem q8_7 (t : Tin) : sSeq A8 (sSeq A9 sNil) (ev 8 (some (false, pol8)) (some (false, due8)) (some (false, row8)) (some (false, .int 7)) (some (false, tot8)) none) t = .nx (ev 8 (some (false, pol8)) (some (false, due8)) (some (false, row8)) (some (false, .int 7)) (some (false, tot8)) (some (false, .int 7907396))) t := by kernel_rfl
theorem q8_8 (t : Tin) : sSeq A8 (sSeq A9 sNil) (ev 8 (some (false, pol8)) (some (false, due8)) (some (false, row8)) (some (false, .int 8)) (some (false, tot8)) none) t = .nx (ev 8 (some (false, pol8)) (some (false, due8)) (some (false, row8)) (some (false, .int 8)) (some (false, tot8)) (some (false, .int 24684612))) t := by kernel_rfl
theorem q8_9 (t : Tin) : sSeq A8 (sSeq A9 sNil) (ev 8 (some (false, pol8)) (some (false, due8)) (some (false, row8)) (some (false, .int 9)) (some (false, tot8)) none) t = .nx (ev 8 (some (false, pol8)) (some (false, due8)) (some (false, row8)) (some (false, .int 9)) (some (false, tot8)) (some (false, .int 67731333))) t := by kernel_rfl
theorem q8_10 (t : Tin) : sSeq A8 (sSeq A9 sNil) (ev 8 (some (false, pol8)) (some (false, due8)) (some (false, row8)) (some (false, .int 10)) (some (false, tot8)) none) t = .nx (ev 8 (some (false, pol8)) (some (false, due8)) (some (false, row8)) (some (false, .int 10)) (some (false, tot8)) (some (false, .int 167731333))) t := by kernel_rfl
theorem q8_11 (t : Tin) : sSeq A8 (sSeq A9 sNil) (ev 8 (some (false, pol8)) (some (false, due8)) (some (false, row8)) (some (false, .int 11)) (some (false, tot8)) none) t = .nx (ev 8 (some (false, pol8)) (some (false, due8)) (some (false, row8)) (some (false, .int 11)) (some (false, tot8)) (some (false, .int 382090214))) t := by kernel_rfl
theorem q8_12 (t : Tin) : sSeq A8 (sSeq A9 sNil) (ev 8 (some (false, pol8)) (some (false, due8)) (some (false, row8)) (some (false, .int 12)) (some (false, tot8)) none) t = .nx (ev 8 (some (false, pol8)) (some (false, due8)) (some (false, row8)) (some (false, .int 12)) (some (false, tot8)) (some (false, .int 812071910))) t := by kernel_rfl
theorem q8_13 (t : Tin) : sSeq A8 (sSeq A9 sNil) (ev 8 (some (false, pol8)) (some (false, due8)) (some (false, row8)) (some (false, .int 13)) (some (false, tot8)) none) t = .nx (ev 8 (some (false, pol8)) (some (false, due8)) (some (false, row8)) (some (false, .int 13)) (some (false, tot8)) (some (false, .int 1627802631))) t := by kernel_rfl
theorem q8_14 (t : Tin) : sSeq A8 (sSeq A9 sNil) (ev 8 (some (false, pol8)) (some (false, due8)) (some (false, row8)) (some (false, .int 14)) (some (false, tot8)) none) t = .nx (ev 8 (some (false, pol8)) (some (false, due8)) (some (false, row8)) (some (false, .int 14)) (some (false, tot8)) (some (false, .int 3103591687))) t := by kernel_rfl
theorem q8_15 (t : Tin) : sSeq A8 (sSeq A9 sNil) (ev 8 (some (false, pol8)) (some (false, due8)) (some (false, row8)) (some (false, .int 15)) (some (false, tot8)) none) t = .nx (ev 8 (some (false, pol8)) (some (false, due8)) (some (false, row8)) (some (false, .int 15)) (some (false, tot8)) (some (false, .int 5666482312))) t := by kernel_rfl
theorem q8_16 (t : Tin) : sSeq A8 (sSeq A9 sNil) (ev 8 (some (false, pol8)) (some (false, due8)) (some (false, row8)) (some (false, .int 16)) (some (false, tot8)) none) t = .nx (ev 8 (some (false, pol8)) (some (false, due8)) (some (false, row8)) (some (false, .int 16)) (some (false, tot8)) (some (false, .int 9961449608))) t := by kernel_rfl
theorem q8_17 (t : Tin) : sSeq A8 (sSeq A9 sNil) (ev 8 (some (false, pol8)) (some (false, due8)) (some (false, row8)) (some (false, .int 17)) (some (false, tot8)) none) t = .nx (ev 8 (some (false, pol8)) (some (false, due8)) (some (false, row8)) (some (false, .int 17)) (some (false, tot8)) (some (false, .int 16937207049))) t := by kernel_rfl
theorem q8_18 (t : Tin) : sSeq A8 (sSeq A9 sNil) (ev 8 (some (false, pol8)) (some (false, due8)) (some (false, row8)) (some (false, .int 18)) (some (false, tot8)) none) t = .nx (ev 8 (some (false, pol8)) (some (false, due8)) (some (false, row8)) (some (false, .int 18)) (some (false, tot8)) (some (false, .int 27957167625))) t := by kernel_rfl
theorem q8_19 (t : Tin) : sSeq A8 (sSeq A9 sNil) (ev 8 (some (false, pol8)) (some (false, due8)) (some (false, row8)) (some (false, .int 19)) (some (false, tot8)) none) t = .nx (ev 8 (some (false, pol8)) (some (false, due8)) (some (false, row8)) (some (false, .int 19)) (some (false, tot8)) (some (false, .int 44940730666))) t := by kernel_rfl
theorem c8 (m : Int) (h0 : 0 ≤ m) (h1 : m < 20) (t : Tin) : R7 (ev 8 (some (false, pol8)) (some (false, due8)) (some (false, row8)) (some (false, .int m)) none none) t = .rt (.bl true) t := by
  have hm : m = 0 ∨ m = 1 ∨ m = 2 ∨ m = 3 ∨ m = 4 ∨ m = 5 ∨ m = 6 ∨ m = 7 ∨ m = 8 ∨ m = 9 ∨ m = 10 ∨ m = 11 ∨ m = 12 ∨ m = 13 ∨ m = 14 ∨ m = 15 ∨ m = 16 ∨ m = 17 ∨ m = 18 ∨ m = 19 := by omega
  rcases hm with rfl | rfl | rfl | rfl | rfl | rfl | rfl | rfl | rfl | rfl | rfl | rfl | rfl | rfl | rfl | rfl | rfl | rfl | rfl | rfl
  · exact (sSeq_nx (a7_8 _ t)).trans ((seq2 (q8_0 t)).trans ((sSeq_rt (a10_8 _ _ t))))
  · exact (sSeq_nx (a7_8 _ t)).trans ((seq2 (q8_1 t)).trans ((sSeq_rt (a10_8 _ _ t))))
  · exact (sSeq_nx (a7_8 _ t)).trans ((seq2 (q8_2 t)).trans ((sSeq_rt (a10_8 _ _ t))))
  · exact (sSeq_nx (a7_8 _ t)).trans ((seq2 (q8_3 t)).trans ((sSeq_rt (a10_8 _ _ t))))
  · exact (sSeq_nx (a7_8 _ t)).trans ((seq2 (q8_4 t)).trans ((sSeq_rt (a10_8 _ _ t))))
  · exact (sSeq_nx (a7_8 _ t)).trans ((seq2 (q8_5 t)).trans ((sSeq_rt (a10_8 _ _ t))))
  · exact (sSeq_nx (a7_8 _ t)).trans ((seq2 (q8_6 t)).trans ((sSeq_rt (a10_8 _ _ t))))
  · exact (sSeq_nx (a7_8 _ t)).trans ((seq2 (q8_7 t)).trans ((sSeq_rt (a10_8 _ _ t))))
  · exact (sSeq_nx (a7_8 _ t)).trans ((seq2 (q8_8 t)).trans ((sSeq_rt (a10_8 _ _ t))))
  · exact (sSeq_nx (a7_8 _ t)).trans ((seq2 (q8_9 t)).trans ((sSeq_rt (a10_8 _ _ t))))
  · exact (sSeq_nx (a7_8 _ t)).trans ((seq2 (q8_10 t)).trans ((sSeq_rt (a10_8 _ _ t))))
  · exact (sSeq_nx (a7_8 _ t)).trans ((seq2 (q8_11 t)).trans ((sSeq_rt (a10_8 _ _ t))))
  · exact (sSeq_nx (a7_8 _ t)).trans ((seq2 (q8_12 t)).trans ((sSeq_rt (a10_8 _ _ t))))
  · exact (sSeq_nx (a7_8 _ t)).trans ((seq2 (q8_13 t)).trans ((sSeq_rt (a10_8 _ _ t))))
  · exact (sSeq_nx (a7_8 _ t)).trans ((seq2 (q8_14 t)).trans ((sSeq_rt (a10_8 _ _ t))))
  · exact (sSeq_nx (a7_8 _ t)).trans ((seq2 (q8_15 t)).trans ((sSeq_rt (a10_8 _ _ t))))
  · exact (sSeq_nx (a7_8 _ t)).trans ((seq2 (q8_16 t)).trans ((sSeq_rt (a10_8 _ _ t))))
  · exact (sSeq_nx (a7_8 _ t)).trans ((seq2 (q8_17 t)).trans ((sSeq_rt (a10_8 _ _ t))))
  · exact (sSeq_nx (a7_8 _ t)).trans ((seq2 (q8_18 t)).trans ((sSeq_rt (a10_8 _ _ t))))
  · exact (sSeq_nx (a7_8 _ t)).trans ((seq2 (q8_19 t)).trans ((sSeq_rt (a10_8 _ _ t))))
theorem d8 (t : Tin) : R1 (ev 8 none none none none none none) t = R6 (ev 8 (some (false, pol8)) (some (false, due8)) (some (false, row8)) none none none) t := (sSeq_nx (a1_8 t)).trans ((sSeq_nx (a2_8 t)).trans ((sSeq_nx (a3_8 t)).trans ((sSeq_nx (a4_8 t)).trans (sSeq_nx (a5_8 t)))))
def pol9 : Val := (Val.tup [(Val.tup [(Val.int 0), (Val.int 1)]), (Val.tup [(Val.int 0), (Val.int 1)]), (Val.tup [(Val.int 0), (Val.int 1)]), (Val.tup [(Val.int 0), (Val.int 1)]), (Val.tup [(Val.int 0), (Val.int 1)]), (Val.tup [(Val.int 0), (Val.int 1)]), (Val.tup [(Val.int 0), (Val.int 1)]), (Val.tup [(Val.int 0), (Val.int 1)]), (Val.tup [(Val.int 0), (Val.int 1)]), (Val.tup [(Val.int 1), (Val.int 1)])])
def due9 : Val := (Val.lst [(Val.int 0), (Val.int 1), (Val.int 510), (Val.int 18150), (Val.int 186480), (Val.int 834120), (Val.int 1905120), (Val.int 2328480), (Val.int 1451520), (Val.int 362880)])
def row9 : Val := (Val.tup [(Val.tup [(Val.int 0), (Val.int 1)]), (Val.tup [(Val.int 1), (Val.int 1)]), (Val.tup [(Val.int 512), (Val.int 1)]), (Val.tup [(Val.int 19683), (Val.int 1)]), (Val.tup [(Val.int 262144), (Val.int 1)]), (Val.tup [(Val.int 1953125), (Val.int 1)]), (Val.tup [(Val.int 10077696), (Val.int 1)]), (Val.tup [(Val.int 40353607), (Val.int 1)]), (Val.tup [(Val.int 134217728), (Val.int 1)]), (Val.tup [(Val.int 387420489), (Val.int 1)])])
def tot9 : Val := (Val.tup [(Val.tup [(Val.int 0), (Val.int 1)]), (Val.tup [(Val.int 0), (Val.int 1)]), (Val.tup [(Val.int (-3)), (Val.int 20)]), (Val.tup [(Val.int 0), (Val.int 1)]), (Val.tup [(Val.int 1), (Val.int 2)]), (Val.tup [(Val.int 0), (Val.int 1)]), (Val.tup [(Val.int (-7)), (Val.int 10)]), (Val.tup [(Val.int 0), (Val.int 1)]), (Val.tup [(Val.int 3), (Val.int 4)]), (Val.tup [(Val.int (-1)), (Val.int 2)]), (Val.tup [(Val.int 1), (Val.int 10)])])
theorem a1_9 (t : Tin) : A1 (ev 9 none none none none none none) t = .nx (ev 9 (some (false, pol9)) none none none none none) t := by kernel_rfl
theorem a2_9 (t : Tin) : A2 (ev 9 (some (false, pol9)) none none none none none) t = .nx (ev 9 (some (false, pol9)) (some (false, due9)) none none none none) t := by kernel_rfl
theorem a3_9 (t : Tin) : A3 (ev 9 (some (false, pol9)) (some (false, due9)) none none none none) t = .nx (ev 9 (some (false, pol9)) (some (false, due9)) none none none none) t := by kernel_rfl
theorem a4_9 (t : Tin) : A4 (ev 9 (some (false, pol9)) (some (false, due9)) none none none none) t = .nx (ev 9 (some (false, pol9)) (some (false, due9)) (some (false, row9)) none none none) t := by kernel_rfl
theorem a5_9 (t : Tin) : A5 (ev 9 (some (false, pol9)) (some (false, due9)) (some (false, row9)) none none none) t = .nx (ev 9 (some (false, pol9)) (some (false, due9)) (some (false, row9)) none none none) t := by kernel_rfl
theorem a7_9 (o : Option (Bool × Val)) (t : Tin) : A7 (ev 9 (some (false, pol9)) (some (false, due9)) (some (false, row9)) o none none) t = .nx (ev 9 (some (false, pol9)) (some (false, due9)) (some (false, row9)) o (some (false, tot9)) none) t := by kernel_rfl
theorem a10_9 (o q : Option (Bool × Val)) (t : Tin) : A10 (ev 9 (some (false, pol9)) (some (false, due9)) (some (false, row9)) o (some (false, tot9)) q) t = .rt (.bl true) t := by kernel_rfl
theorem q9_0 (t : Tin) : sSeq A8 (sSeq A9 sNil) (ev 9 (some (false, pol9)) (some (false, due9)) (some (false, row9)) (some (false, .int 0)) (some (false, tot9)) none) t = .nx (ev 9 (some (false, pol9)) (some (false, due9)) (some (false, row9)) (some (false, .int 0)) (some (false, tot9)) (some (false, .int 0))) t := by kernel_rfl
theorem q9_1 (t : Tin) : sSeq A8 (sSeq A9 sNil) (ev 9 (some (false, pol9)) (some (false, due9)) (some (false, row9)) (some (false, .int 1)) (some (false, tot9)) none) t = .nx (ev 9 (some (false, pol9)) (some (false, due9)) (some (false, row9)) (some (false, .int 1)) (some (false, tot9)) (some (false, .int 1))) t := by kernel_rfl
theorem q9_2 (t : Tin) : sSeq A8 (sSeq A9 sNil) (ev 9 (some (false, pol9)) (some (false, due9)) (some (false, row9)) (some (false, .int 2)) (some (false, tot9)) none) t = .nx (ev 9 (some (false, pol9)) (some (false, due9)) (some (false, row9)) (some (false, .int 2)) (some (false, tot9)) (some (false, .int 513))) t := by kernel_rfl
theorem q9_3 (t : Tin) : sSeq A8 (sSeq A9 sNil) (ev 9 (some (false, pol9)) (some (false, due9)) (some (false, row9)) (some (false, .int 3)) (some (false, tot9)) none) t = .nx (ev 9 (some (false, pol9)) (some (false, due9)) (some (false, row9)) (some (false, .int 3)) (some (false, tot9)) (some (false, .int 20196))) t := by kernel_rfl
theorem q9_4 (t : Tin) : sSeq A8 (sSeq A9 sNil) (ev 9 (some (false, pol9)) (some (false, due9)) (some (false, row9)) (some (false, .int 4)) (some (false, tot9)) none) t = .nx (ev 9 (some (false, pol9)) (some (false, due9)) (some (false, row9)) (some (false, .int 4)) (some (false, tot9)) (some (false, .int 282340))) t := by kernel_rfl
theorem q9_5 (t : Tin) : sSeq A8 (sSeq A9 sNil) (ev 9 (some (false, pol9)) (some (false, due9)) (some (false, row9)) (some (false, .int 5)) (some (false, tot9)) none) t = .nx (ev 9 (some (false, pol9)) (some (false, due9)) (some (false, row9)) (some (false, .int 5)) (some (false, tot9)) (some (false, .int 2235465))) t := by kernel_rfl
theorem q9_6 (t : Tin) : sSeq A8 (sSeq A9 sNil) (ev 9 (some (false, pol9)) (some (false, due9)) (some (false, row9)) (some (false, .int 6)) (some (false, tot9)) none) t = .nx (ev 9 (some (false, pol9)) (some (false, due9)) (some (false, row9)) (some (false, .int 6)) (some (false, tot9)) (some (false, .int 12313161))) t := by kernel_rfl
theorem q9_7 (t : Tin) : sSeq A8 (sSeq A9 sNil) (ev 9 (some (false, pol9)) (some (false, due9)) (some (false, row9)) (some (false, .int 7)) (some (false, tot9)) none) t = .nx (ev 9 (some (false, pol9)) (some (false, due9)) (some (false, row9)) (some (false, .int 7)) (some (false, tot9)) (some (false, .int 52666768))) t := by kernel_rfl
theorem q9_8 (t : Tin) : sSeq A8 (sSeq A9 sNil) (ev 9 (some (false, pol9)) (some (false, due9)) (some (false, row9)) (some (false, .int 8)) (some (false, tot9)) none) t = .nx (ev 9 (some (false, pol9)) (some (false, due9)) (some (false, row9)) (some (false, .int 8)) (some (false, tot9)) (some (false, .int 186884496))) t := by kernel_rfl
theorem q9_9 (t : Tin) : sSeq A8 (sSeq A9 sNil) (ev 9 (some (false, pol9)) (some (false, due9)) (some (false, row9)) (some (false, .int 9)) (some (false, tot9)) none) t = .nx (ev 9 (some (false, pol9)) (some (false, due9)) (some (false, row9)) (some (false, .int 9)) (some (false, tot9)) (some (false, .int 574304985))) t := by kernel_rfl
theorem q9_10 (t : Tin) : sSeq A8 (sSeq A9 sNil) (ev 9 (some (false, pol9)) (some (false, due9)) (some (false, row9)) (some (false, .int 10)) (some (false, tot9)) none) t = .nx (ev 9 (some (false, pol9)) (some (false, due9)) (some (false, row9)) (some (false, .int 10)) (some (false, tot9)) (some (false, .int 1574304985))) t := by kernel_rfl
theorem q9_11 (t : Tin) : sSeq A8 (sSeq A9 sNil) (ev 9 (some (false, pol9)) (some (false, due9)) (some (false, row9)) (some (false, .int 11)) (some (false, tot9)) none) t = .nx (ev 9 (some (false, pol9)) (some (false, due9)) (some (false, row9)) (some (false, .int 11)) (some (false, tot9)) (some (false, .int 3932252676))) t := by kernel_rfl
theorem q9_12 (t : Tin) : sSeq A8 (sSeq A9 sNil) (ev 9 (some (false, pol9)) (some (false, due9)) (some (false, row9)) (some (false, .int 12)) (some (false, tot9)) none) t = .nx (ev 9 (some (false, pol9)) (some (false, due9)) (some (false, row9)) (some (false, .int 12)) (some (false, tot9)) (some (false, .int 9092033028))) t := by kernel_rfl
theorem q9_13 (t : Tin) : sSeq A8 (sSeq A9 sNil) (ev 9 (some (false, pol9)) (some (false, due9)) (some (false, row9)) (some (false, .int 13)) (some (false, tot9)) none) t = .nx (ev 9 (some (false, pol9)) (some (false, due9)) (some (false, row9)) (some (false, .int 13)) (some (false, tot9)) (some (false, .int 19696532401))) t := by kernel_rfl
theorem q9_14 (t : Tin) : sSeq A8 (sSeq A9 sNil) (ev 9 (some (false, pol9)) (some (false, due9)) (some (false, row9)) (some (false, .int 14)) (some (false, tot9)) none) t = .nx (ev 9 (some (false, pol9)) (some (false, due9)) (some (false, row9)) (some (false, .int 14)) (some (false, tot9)) (some (false, .int 40357579185))) t := by kernel_rfl
theorem q9_15 (t : Tin) : sSeq A8 (sSeq A9 sNil) (ev 9 (some (false, pol9)) (some (false, due9)) (some (false, row9)) (some (false, .int 15)) (some (false, tot9)) none) t = .nx (ev 9 (some (false, pol9)) (some (false, due9)) (some (false, row9)) (some (false, .int 15)) (some (false, tot9)) (some (false, .int 78800938560))) t := by kernel_rfl
theorem q9_16 (t : Tin) : sSeq A8 (sSeq A9 sNil) (ev 9 (some (false, pol9)) (some (false, due9)) (some (false, row9)) (some (false, .int 16)) (some (false, tot9)) none) t = .nx (ev 9 (some (false, pol9)) (some (false, due9)) (some (false, row9)) (some (false, .int 16)) (some (false, tot9)) (some (false, .int 147520415296))) t := by kernel_rfl
theorem q9_17 (t : Tin) : sSeq A8 (sSeq A9 sNil) (ev 9 (some (false, pol9)) (some (false, due9)) (some (false, row9)) (some (false, .int 17)) (some (false, tot9)) none) t = .nx (ev 9 (some (false, pol9)) (some (false, due9)) (some (false, row9)) (some (false, .int 17)) (some (false, tot9)) (some (false, .int 266108291793))) t := by kernel_rfl
theorem q9_18 (t : Tin) : sSeq A8 (sSeq A9 sNil) (ev 9 (some (false, pol9)) (some (false, due9)) (some (false, row9)) (some (false, .int 18)) (some (false, tot9)) none) t = .nx (ev 9 (some (false, pol9)) (some (false, due9)) (some (false, row9)) (some (false, .int 18)) (some (false, tot9)) (some (false, .int 464467582161))) t := by kernel_rfl
theorem q9_19 (t : Tin) : sSeq A8 (sSeq A9 sNil) (ev 9 (some (false, pol9)) (some (false, due9)) (some (false, row9)) (some (false, .int 19)) (some (false, tot9)) none) t = .nx (ev 9 (some (false, pol9)) (some (false, due9)) (some (false, row9)) (some (false, .int 19)) (some (false, tot9)) (some (false, .int 787155279940))) t := by kernel_rfl
theorem c9 (m : Int) (h0 : 0 ≤ m) (h1 : m < 20) (t : Tin) : R7 (ev 9 (some (false, pol9)) (some (false, due9)) (some (false, row9)) (some (false, .int m)) none none) t = .rt (.bl true) t := by
  have hm : m = 0 ∨ m = 1 ∨ m = 2 ∨ m = 3 ∨ m = 4 ∨ m = 5 ∨ m = 6 ∨ m = 7 ∨ m = 8 ∨ m = 9 ∨ m = 10 ∨ m = 11 ∨ m = 12 ∨ m = 13 ∨ m = 14 ∨ m = 15 ∨ m = 16 ∨ m = 17 ∨ m = 18 ∨ m = 19 := by omega
  rcases hm with rfl | rfl | rfl | rfl | rfl | rfl | rfl | rfl | rfl | rfl | rfl | rfl | rfl | rfl | rfl | rfl | rfl | rfl | rfl | rfl
  · exact (sSeq_nx (a7_9 _ t)).trans ((seq2 (q9_0 t)).trans ((sSeq_rt (a10_9 _ _ t))))
  · exact (sSeq_nx (a7_9 _ t)).trans ((seq2 (q9_1 t)).trans ((sSeq_rt (a10_9 _ _ t))))
  · exact (sSeq_nx (a7_9 _ t)).trans ((seq2 (q9_2 t)).trans ((sSeq_rt (a10_9 _ _ t))))
  · exact (sSeq_nx (a7_9 _ t)).trans ((seq2 (q9_3 t)).trans ((sSeq_rt (a10_9 _ _ t))))
  · exact (sSeq_nx (a7_9 _ t)).trans ((seq2 (q9_4 t)).trans ((sSeq_rt (a10_9 _ _ t))))
  · exact (sSeq_nx (a7_9 _ t)).trans ((seq2 (q9_5 t)).trans ((sSeq_rt (a10_9 _ _ t))))
  · exact (sSeq_nx (a7_9 _ t)).trans ((seq2 (q9_6 t)).trans ((sSeq_rt (a10_9 _ _ t))))
  · exact (sSeq_nx (a7_9 _ t)).trans ((seq2 (q9_7 t)).trans ((sSeq_rt (a10_9 _ _ t))))
  · exact (sSeq_nx (a7_9 _ t)).trans ((seq2 (q9_8 t)).trans ((sSeq_rt (a10_9 _ _ t))))
  · exact (sSeq_nx (a7_9 _ t)).trans ((seq2 (q9_9 t)).trans ((sSeq_rt (a10_9 _ _ t))))
  · exact (sSeq_nx (a7_9 _ t)).trans ((seq2 (q9_10 t)).trans ((sSeq_rt (a10_9 _ _ t))))
  · exact (sSeq_nx (a7_9 _ t)).trans ((seq2 (q9_11 t)).trans ((sSeq_rt (a10_9 _ _ t))))
  · exact (sSeq_nx (a7_9 _ t)).trans ((seq2 (q9_12 t)).trans ((sSeq_rt (a10_9 _ _ t))))
  · exact (sSeq_nx (a7_9 _ t)).trans ((seq2 (q9_13 t)).trans ((sSeq_rt (a10_9 _ _ t))))
  · exact (sSeq_nx (a7_9 _ t)).trans ((seq2 (q9_14 t)).trans ((sSeq_rt (a10_9 _ _ t))))
  · exact (sSeq_nx (a7_9 _ t)).trans ((seq2 (q9_15 t)).trans ((sSeq_rt (a10_9 _ _ t))))
  · exact (sSeq_nx (a7_9 _ t)).trans ((seq2 (q9_16 t)).trans ((sSeq_rt (a10_9 _ _ t))))
  · exact (sSeq_nx (a7_9 _ t)).trans ((seq2 (q9_17 t)).trans ((sSeq_rt (a10_9 _ _ t))))
  · exact (sSeq_nx (a7_9 _ t)).trans ((seq2 (q9_18 t)).trans ((sSeq_rt (a10_9 _ _ t))))
  · exact (sSeq_nx (a7_9 _ t)).trans ((seq2 (q9_19 t)).trans ((sSeq_rt (a10_9 _ _ t))))
theorem d9 (t : Tin) : R1 (ev 9 none none none none none none) t = R6 (ev 9 (some (false, pol9)) (some (false, due9)) (some (false, row9)) none none none) t := (sSeq_nx (a1_9 t)).trans ((sSeq_nx (a2_9 t)).trans ((sSeq_nx (a3_9 t)).trans ((sSeq_nx (a4_9 t)).trans (sSeq_nx (a5_9 t)))))
def pol10 : Val := (Val.tup [(Val.tup [(Val.int 0), (Val.int 1)]), (Val.tup [(Val.int 0), (Val.int 1)]), (Val.tup [(Val.int 0), (Val.int 1)]), (Val.tup [(Val.int 0), (Val.int 1)]), (Val.tup [(Val.int 0), (Val.int 1)]), (Val.tup [(Val.int 0), (Val.int 1)]), (Val.tup [(Val.int 0), (Val.int 1)]), (Val.tup [(Val.int 0), (Val.int 1)]), (Val.tup [(Val.int 0), (Val.int 1)]), (Val.tup [(Val.int 0), (Val.int 1)]), (Val.tup [(Val.int 1), (Val.int 1)])])
def due10 : Val := (Val.lst [(Val.int 0), (Val.int 1), (Val.int 1022), (Val.int 55980), (Val.int 818520), (Val.int 5103000), (Val.int 16435440), (Val.int 29635200), (Val.int 30240000), (Val.int 16329600), (Val.int 3628800)])
def row10 : Val := (Val.tup [(Val.tup [(Val.int 0), (Val.int 1)]), (Val.tup [(Val.int 1), (Val.int 1)]), (Val.tup [(Val.int 1024), (Val.int 1)]), (Val.tup [(Val.int 59049), (Val.int 1)]), (Val.tup [(Val.int 1048576), (Val.int 1)]), (Val.tup [(Val.int 9765625), (Val.int 1)]), (Val.tup [(Val.int 60466176), (Val.int 1)]), (Val.tup [(Val.int 282475249), (Val.int 1)]), (Val.tup [(Val.int 1073741824), (Val.int 1)]), (Val.tup [(Val.int 3486784401), (Val.int 1)]), (Val.tup [(Val.int 10000000000), (Val.int 1)])])
def tot10 : Val := (Val.tup [(Val.tup [(Val.int 0), (Val.int 1)]), (Val.tup [(Val.int 5), (Val.int 66)]), (Val.tup [(Val.int 0), (Val.int 1)]), (Val.tup [(Val.int (-1)), (Val.int 2)]), (Val.tup [(Val.int 0), (Val.int 1)]), (Val.tup [(Val.int 1), (Val.int 1)]), (Val.tup [(Val.int 0), (Val.int 1)]), (Val.tup [(Val.int (-1)), (Val.int 1)]), (Val.tup [(Val.int 0), (Val.int 1)]), (Val.tup [(Val.int 5), (Val.int 6)]), (Val.tup [(Val.int (-1)), (Val.int 2)]), (Val.tup [(Val.int 1), (Val.int 11)])])
theorem a1_10 (t : Tin) : A1 (ev 10 none none none none none none) t = .nx (ev 10 (some (false, pol10)) none none none none none) t := by kernel_rfl
theorem a2_10 (t : Tin) : A2 (ev 10 (some (false, pol10)) none none none none none) t = .nx (ev 10 (some (false, pol10)) (some (false, due10)) none none none none) t := by kernel_rfl
theorem a3_10 (t : Tin) : A3 (ev 10 (some (false, pol10)) (some (false, due10)) none none none none) t = .nx (ev 10 (some (false, pol10)) (some (false, due10)) none none none none) t := by kernel_rfl
theorem a4_10 (t : Tin) : A4 (ev 10 (some (false, pol10)) (some (false, due10)) none none none none) t = .nx (ev 10 (some (false, pol10)) (some (false, due10)) (some (false, row10)) none none none) t := by kernel_rfl
theorem a5_10 (t : Tin) : A5 (ev 10 (some (false, pol10)) (some (false, due10)) (some (false, row10)) none none none) t = .nx (ev 10 (some (false, pol10)) (some (false, due10)) (some (false, row10)) none none none) t := by kernel_rfl
theorem a7_10 (o : Option (Bool × Val)) (t : Tin) : A7 (ev 10 (some (false, pol10)) (some (false, due10)) (some (false, row10)) o none none) t = .nx (ev 10 (some (false, pol10)) (some (false, due10)) (some (false, row10)) o (some (false, tot10)) none) t := by kernel_rfl
theorem a10_10 (o q : Option (Bool × Val)) (t : Tin) : A10 (ev 10 (some (false, pol10)) (some (false, due10)) (some (false, row10)) o (some (false, tot10)) q) t = .rt (.bl true) t := by kernel_rfl
theorem q10_0 (t : Tin) : sSeq A8 (sSeq A9 sNil) (ev 10 (some (false, pol10)) (some (false, due10)) (some (false, row10)) (some (false, .int 0)) (some (false, tot10)) none) t = .nx (ev 10 (some (false, pol10)) (some (false, due10)) (some (false, row10)) (some (false, .int 0)) (some (false, tot10)) (some (false, .int 0))) t := by kernel_rfl
theorem q10_1 (t : Tin) : sSeq A8 (sSeq A9 sNil) (ev 10 (some (false, pol10)) (some (false, due10)) (some (false, row10)) (some (false, .int 1)) (some (false, tot10)) none) t = .nx (ev 10 (some (false, pol10)) (some (false, due10)) (some (false, row10)) (some (false, .int 1)) (some (false, tot10)) (some (false, .int 1))) t := by kernel_rfl
theorem q10_2 (t : Tin) : sSeq A8 (sSeq A9 sNil) (ev 10 (some (false, pol10)) (some (false, due10)) (some (false, row10)) (some (false, .int 2)) (some (false, tot10)) none) t = .nx (ev 10 (some (false, pol10)) (some (false, due10)) (some (false, row10)) (some (false, .int 2)) (some (false, tot10)) (some (false, .int 1025))) t := by kernel_rfl
theorem q10_3 (t : Tin) : sSeq A8 (sSeq A9 sNil) (ev 10 (some (false, pol10)) (some (false, due10)) (some (false, row10)) (some (false, .int 3)) (some (false, tot10)) none) t = .nx (ev 10 (some (false, pol10)) (some (false, due10)) (some (false, row10)) (some (false, .int 3)) (some (false, tot10)) (some (false, .int 60074))) t := by kernel_rfl
theorem q10_4 (t : Tin) : sSeq A8 (sSeq A9 sNil) (ev 10 (some (false, pol10)) (some (false, due10)) (some (false, row10)) (some (false, .int 4)) (some (false, tot10)) none) t = .nx (ev 10 (some (false, pol10)) (some (false, due10)) (some (false, row10)) (some (false, .int 4)) (some (false, tot10)) (some (false, .int 1108650))) t := by kernel_rfl
theorem q10_5 (t : Tin) : sSeq A8 (sSeq A9 sNil) (ev 10 (some (false, pol10)) (some (false, due10)) (some (false, row10)) (some (false, .int 5)) (some (false, tot10)) none) t = .nx (ev 10 (some (false, pol10)) (some (false, due10)) (some (false, row10)) (some (false, .int 5)) (some (false, tot10)) (some (false, .int 10874275))) t := by kernel_rfl
theorem q10_6 (t : Tin) : sSeq A8 (sSeq A9 sNil) (ev 10 (some (false, pol10)) (some (false, due10)) (some (false, row10)) (some (false, .int 6)) (some (false, tot10)) none) t = .nx (ev 10 (some (false, pol10)) (some (false, due10)) (some (false, row10)) (some (false, .int 6)) (some (false, tot10)) (some (false, .int 71340451))) t := by kernel_rfl
theorem q10_7 (t : Tin) : sSeq A8 (sSeq A9 sNil) (ev 10 (some (false, pol10)) (some (false, due10)) (some (false, row10)) (some (false, .int 7)) (some (false, tot10)) none) t = .nx (ev 10 (some (false, pol10)) (some (false, due10)) (some (false, row10)) (some (false, .int 7)) (some (false, tot10)) (some (false, .int 353815700))) t := by kernel_rfl
theorem q10_8 (t : Tin) : sSeq A8 (sSeq A9 sNil) (ev 10 (some (false, pol10)) (some (false, due10)) (some (false, row10)) (some (false, .int 8)) (some (false, tot10)) none) t = .nx (ev 10 (some (false, pol10)) (some (false, due10)) (some (false, row10)) (some (false, .int 8)) (some (false, tot10)) (some (false, .int 1427557524))) t := by kernel_rfl
theorem q10_9 (t : Tin) : sSeq A8 (sSeq A9 sNil) (ev 10 (some (false, pol10)) (some (false, due10)) (some (false, row10)) (some (false, .int 9)) (some (false, tot10)) none) t = .nx (ev 10 (some (false, pol10)) (some (false, due10)) (some (false, row10)) (some (false, .int 9)) (some (false, tot10)) (some (false, .int 4914341925))) t := by kernel_rfl
theorem q10_10 (t : Tin) : sSeq A8 (sSeq A9 sNil) (ev 10 (some (false, pol10)) (some (false, due10)) (some (false, row10)) (some (false, .int 10)) (some (false, tot10)) none) t = .nx (ev 10 (some (false, pol10)) (some (false, due10)) (some (false, row10)) (some (false, .int 10)) (some (false, tot10)) (some (false, .int 14914341925))) t := by kernel_rfl
theorem q10_11 (t : Tin) : sSeq A8 (sSeq A9 sNil) (ev 10 (some (false, pol10)) (some (false, due10)) (some (false, row10)) (some (false, .int 11)) (some (false, tot10)) none) t = .nx (ev 10 (some (false, pol10)) (some (false, due10)) (some (false, row10)) (some (false, .int 11)) (some (false, tot10)) (some (false, .int 40851766526))) t := by kernel_rfl
theorem q10_12 (t : Tin) : sSeq A8 (sSeq A9 sNil) (ev 10 (some (false, pol10)) (some (false, due10)) (some (false, row10)) (some (false, .int 12)) (some (false, tot10)) none) t = .nx (ev 10 (some (false, pol10)) (some (false, due10)) (some (false, row10)) (some (false, .int 12)) (some (false, tot10)) (some (false, .int 102769130750))) t := by kernel_rfl
theorem q10_13 (t : Tin) : sSeq A8 (sSeq A9 sNil) (ev 10 (some (false, pol10)) (some (false, due10)) (some (false, row10)) (some (false, .int 13)) (some (false, tot10)) none) t = .nx (ev 10 (some (false, pol10)) (some (false, due10)) (some (false, row10)) (some (false, .int 13)) (some (false, tot10)) (some (false, .int 240627622599))) t := by kernel_rfl
theorem q10_14 (t : Tin) : sSeq A8 (sSeq A9 sNil) (ev 10 (some (false, pol10)) (some (false, due10)) (some (false, row10)) (some (false, .int 14)) (some (false, tot10)) none) t = .nx (ev 10 (some (false, pol10)) (some (false, due10)) (some (false, row10)) (some (false, .int 14)) (some (false, tot10)) (some (false, .int 529882277575))) t := by kernel_rfl
theorem q10_15 (t : Tin) : sSeq A8 (sSeq A9 sNil) (ev 10 (some (false, pol10)) (some (false, due10)) (some (false, row10)) (some (false, .int 15)) (some (false, tot10)) none) t = .nx (ev 10 (some (false, pol10)) (some (false, due10)) (some (false, row10)) (some (false, .int 15)) (some (false, tot10)) (some (false, .int 1106532668200))) t := by kernel_rfl
theorem q10_16 (t : Tin) : sSeq A8 (sSeq A9 sNil) (ev 10 (some (false, pol10)) (some (false, due10)) (some (false, row10)) (some (false, .int 16)) (some (false, tot10)) none) t = .nx (ev 10 (some (false, pol10)) (some (false, due10)) (some (false, row10)) (some (false, .int 16)) (some (false, tot10)) (some (false, .int 2206044295976))) t := by kernel_rfl
theorem q10_17 (t : Tin) : sSeq A8 (sSeq A9 sNil) (ev 10 (some (false, pol10)) (some (false, due10)) (some (false, row10)) (some (false, .int 17)) (some (false, tot10)) none) t = .nx (ev 10 (some (false, pol10)) (some (false, due10)) (some (false, row10)) (some (false, .int 17)) (some (false, tot10)) (some (false, .int 4222038196425))) t := by kernel_rfl
theorem q10_18 (t : Tin) : sSeq A8 (sSeq A9 sNil) (ev 10 (some (false, pol10)) (some (false, due10)) (some (false, row10)) (some (false, .int 18)) (some (false, tot10)) none) t = .nx (ev 10 (some (false, pol10)) (some (false, due10)) (some (false, row10)) (some (false, .int 18)) (some (false, tot10)) (some (false, .int 7792505423049))) t := by kernel_rfl
theorem q10_19 (t : Tin) : sSeq A8 (sSeq A9 sNil) (ev 10 (some (false, pol10)) (some (false, due10)) (some (false, row10)) (some (false, .int 19)) (some (false, tot10)) none) t = .nx (ev 10 (some (false, pol10)) (some (false, due10)) (some (false, row10)) (some (false, .int 19)) (some (false, tot10)) (some (false, .int 13923571680850))) t := by kernel_rfl
theorem c10 (m : Int) (h0 : 0 ≤ m) (h1 : m < 20) (t : Tin) : R7 (ev 10 (some (false, pol10)) (some (false, due10)) (some (false, row10)) (some (false, .int m)) none none) t = .rt (.bl true) t := by
  have hm : m = 0 ∨ m = 1 ∨ m = 2 ∨ m = 3 ∨ m = 4 ∨ m = 5 ∨ m = 6 ∨ m = 7 ∨ m = 8 ∨ m = 9 ∨ m = 10 ∨ m = 11 ∨ m = 12 ∨ m = 13 ∨ m = 14 ∨ m = 15 ∨ m = 16 ∨ m = 17 ∨ m = 18 ∨ m = 19 := by omega
  rcases hm with rfl | rfl | rfl | rfl | rfl | rfl | rfl | rfl | rfl | rfl | rfl | rfl | rfl | rfl | rfl | rfl | rfl | rfl | rfl | rfl
  · exact (sSeq_nx (a7_10 _ t)).trans ((seq2 (q10_0 t)).trans ((sSeq_rt (a10_10 _ _ t))))
  · exact (sSeq_nx (a7_10 _ t)).trans ((seq2 (q10_1 t)).trans ((sSeq_rt (a10_10 _ _ t))))
  · exact (sSeq_nx (a7_10 _ t)).trans ((seq2 (q10_2 t)).trans ((sSeq_rt (a10_10 _ _ t))))
  · exact (sSeq_nx (a7_10 _ t)).trans ((seq2 (q10_3 t)).trans ((sSeq_rt (a10_10 _ _ t))))
  · exact (sSeq_nx (a7_10 _ t)).trans ((seq2 (q10_4 t)).trans ((sSeq_rt (a10_10 _ _ t))))
  · exact (sSeq_nx (a7_10 _ t)).trans ((seq2 (q10_5 t)).trans ((sSeq_rt (a10_10 _ _ t))))
  · exact (sSeq_nx (a7_10 _ t)).trans ((seq2 (q10_6 t)).trans ((sSeq_rt (a10_10 _ _ t))))
  · exact (sSeq_nx (a7_10 _ t)).trans ((seq2 (q10_7 t)).trans ((sSeq_rt (a10_10 _ _ t))))
  · exact (sSeq_nx (a7_10 _ t)).trans ((seq2 (q10_8 t)).trans ((sSeq_rt (a10_10 _ _ t))))
  · exact (sSeq_nx (a7_10 _ t)).trans ((seq2 (q10_9 t)).trans ((sSeq_rt (a10_10 _ _ t))))
  · exact (sSeq_nx (a7_10 _ t)).trans ((seq2 (q10_10 t)).trans ((sSeq_rt (a10_10 _ _ t))))
  · exact (sSeq_nx (a7_10 _ t)).trans ((seq2 (q10_11 t)).trans ((sSeq_rt (a10_10 _ _ t))))
  · exact (sSeq_nx (a7_10 _ t)).trans ((seq2 (q10_12 t)).trans ((sSeq_rt (a10_10 _ _ t))))
  · exact (sSeq_nx (a7_10 _ t)).trans ((seq2 (q10_13 t)).trans ((sSeq_rt (a10_10 _ _ t))))
  · exact (sSeq_nx (a7_10 _ t)).trans ((seq2 (q10_14 t)).trans ((sSeq_rt (a10_10 _ _ t))))
  · exact (sSeq_nx (a7_10 _ t)).trans ((seq2 (q10_15 t)).trans ((sSeq_rt (a10_10 _ _ t))))
  · exact (sSeq_nx (a7_10 _ t)).trans ((seq2 (q10_16 t)).trans ((sSeq_rt (a10_10 _ _ t))))
  · exact (sSeq_nx (a7_10 _ t)).trans ((seq2 (q10_17 t)).trans ((sSeq_rt (a10_10 _ _ t))))
  · exact (sSeq_nx (a7_10 _ t)).trans ((seq2 (q10_18 t)).trans ((sSeq_rt (a10_10 _ _ t))))
  · exact (sSeq_nx (a7_10 _ t)).trans ((seq2 (q10_19 t)).trans ((sSeq_rt (a10_10 _ _ t))))
theorem d10 (t : Tin) : R1 (ev 10 none none none none none none) t = R6 (ev 10 (some (false, pol10)) (some (false, due10)) (some (false, row10)) none none none) t := (sSeq_nx (a1_10 t)).trans ((sSeq_nx (a2_10 t)).trans ((sSeq_nx (a3_10 t)).trans ((sSeq_nx (a4_10 t)).trans (sSeq_nx (a5_10 t)))))
def pol11 : Val := (Val.tup [(Val.tup [(Val.int 0), (Val.int 1)]), (Val.tup [(Val.int 0), (Val.int 1)]), (Val.tup [(Val.int 0), (Val.int 1)]), (Val.tup [(Val.int 0), (Val.int 1)]), (Val.tup [(Val.int 0), (Val.int 1)]), (Val.tup [(Val.int 0), (Val.int 1)]), (Val.tup [(Val.int 0), (Val.int 1)]), (Val.tup [(Val.int 0), (Val.int 1)]), (Val.tup [(Val.int 0), (Val.int 1)]), (Val.tup [(Val.int 0), (Val.int 1)]), (Val.tup [(Val.int 0), (Val.int 1)]), (Val.tup [(Val.int 1), (Val.int 1)])])
def due11 : Val := (Val.lst [(Val.int 0), (Val.int 1), (Val.int 2046), (Val.int 171006), (Val.int 3498000), (Val.int 29607600), (Val.int 129230640), (Val.int 322494480), (Val.int 479001600), (Val.int 419126400), (Val.int 199584000), (Val.int 39916800)])
def row11 : Val := (Val.tup [(Val.tup [(Val.int 0), (Val.int 1)]), (Val.tup [(Val.int 1), (Val.int 1)]), (Val.tup [(Val.int 2048), (Val.int 1)]), (Val.tup [(Val.int 177147), (Val.int 1)]), (Val.tup [(Val.int 4194304), (Val.int 1)]), (Val.tup [(Val.int 48828125), (Val.int 1)]), (Val.tup [(Val.int 362797056), (Val.int 1)]), (Val.tup [(Val.int 1977326743), (Val.int 1)]), (Val.tup [(Val.int 8589934592), (Val.int 1)]), (Val.tup [(Val.int 31381059609), (Val.int 1)]), (Val.tup [(Val.int 100000000000), (Val.int 1)]), (Val.tup [(Val.int 285311670611), (Val.int 1)])])
def tot11 : Val := (Val.tup [(Val.tup [(Val.int 0), (Val.int 1)]), (Val.tup [(Val.int 0), (Val.int 1)]), (Val.tup [(Val.int 5), (Val.int 12)]), (Val.tup [(Val.int 0), (Val.int 1)]), (Val.tup [(Val.int (-11)), (Val.int 8)]), (Val.tup [(Val.int 0), (Val.int 1)]), (Val.tup [(Val.int 11), (Val.int 6)]), (Val.tup [(Val.int 0), (Val.int 1)]), (Val.tup [(Val.int (-11)), (Val.int 8)]), (Val.tup [(Val.int 0), (Val.int 1)]), (Val.tup [(Val.int 11), (Val.int 12)]), (Val.tup [(Val.int (-1)), (Val.int 2)]), (Val.tup [(Val.int 1), (Val.int 12)])])
theorem a1_11 (t : Tin) : A1 (ev 11 none none none none none none) t = .nx (ev 11 (some (false, pol11)) none none none none none) t := by kernel_rfl
theorem a2_11 (t : Tin) : A2 (ev 11 (some (false, pol11)) none none none none none) t = .nx (ev 11 (some (false, pol11)) (some (false, due11)) none none none none) t := by kernel_rfl
theorem a3_11 (t : Tin) : A3 (ev 11 (some (false, pol11)) (some (false, due11)) none none none none) t = .nx (ev 11 (some (false, pol11)) (some (false, due11)) none none none none) t := by kernel_rfl
theorem a4_11 (t : Tin) : A4 (ev 11 (some (false, pol11)) (some (false, due11)) none none none none) t = .nx (ev 11 (some (false, pol11)) (some (false, due11)) (some (false, row11)) none none none) t := by kernel_rfl
theorem a5_11 (t : Tin) : A5 (ev 11 (some (false, pol11)) (some (false, due11)) (some (false, row11)) none none none) t = .nx (ev 11 (some (false, pol11)) (some (false, due11)) (some (false, row11)) none none none) t := by kernel_rfl
theorem a7_11 (o : Option (Bool × Val)) (t : Tin) : A7 (ev 11 (some (false, pol11)) (some (false, due11)) (some (false, row11)) o none none) t = .nx (ev 11 (some (false, pol11)) (some (false, due11)) (some (false, row11)) o (some (false, tot11)) none) t := by kernel_rfl
theorem a10_11 (o q : Option (Bool × Val)) (t : Tin) : A10 (ev 11 (some (false, pol11)) (some (false, due11)) (some (false, row11)) o (some (false, tot11)) q) t = .rt (.bl true) t := by kernel_rfl
theorem q11_0 (t : Tin) : sSeq A8 (sSeq A9 sNil) (ev 11 (some (false, pol11)) (some (false, due11)) (some (false, row11)) (some (false, .int 0)) (some (false, tot11)) none) t = .nx (ev 11 (some (false, pol11)) (some (false, due11)) (some (false, row11)) (some (false, .int 0)) (some (false, tot11)) (some (false, .int 0))) t := by kernel_rfl
theorem q11_1 (t : Tin) : sSeq A8 (sSeq A9 sNil) (ev 11 (some (false, pol11)) (some (false, due11)) (some (false, row11)) (some (false, .int 1)) (some (false, tot11)) none) t = .nx (ev 11 (some (false, pol11)) (some (false, due11)) (some (false, row11)) (some (false, .int 1)) (some (false, tot11)) (some (false, .int 1))) t := by kernel_rfl
theorem q11_2 (t : Tin) : sSeq A8 (sSeq A9 sNil) (ev 11 (some (false, pol11)) (some (false, due11)) (some (false, row11)) (some (false, .int 2)) (some (false, tot11)) none) t = .nx (ev 11 (some (false, pol11)) (some (false, due11)) (some (false, row11)) (some (false, .int 2)) (some (false, tot11)) (some (false, .int 2049))) t := by kernel_rfl
theorem q11_3 (t : Tin) : sSeq A8 (sSeq A9 sNil) (ev 11 (some (false, pol11)) (some (false, due11)) (some (false, row11)) (some (false, .int 3)) (some (false, tot11)) none) t = .nx (ev 11 (some (false, pol11)) (some (false, due11)) (some (false, row11)) (some (false, .int 3)) (some (false, tot11)) (some (false, .int 179196))) t := by kernel_rfl
theorem q11_4 (t : Tin) : sSeq A8 (sSeq A9 sNil) (ev 11 (some (false, pol11)) (some (false, due11)) (some (false, row11)) (some (false, .int 4)) (some (false, tot11)) none) t = .nx (ev 11 (some (false, pol11)) (some (false, due11)) (some (false, row11)) (some (false, .int 4)) (some (false, tot11)) (some (false, .int 4373500))) t := by kernel_rfl
theorem q11_5 (t : Tin) : sSeq A8 (sSeq A9 sNil) (ev 11 (some (false, pol11)) (some (false, due11)) (some (false, row11)) (some (false, .int 5)) (some (false, tot11)) none) t = .nx (ev 11 (some (false, pol11)) (some (false, due11)) (some (false, row11)) (some (false, .int 5)) (some (false, tot11)) (some (false, .int 53201625))) t := by kernel_rfl
theorem q11_6 (t : Tin) : sSeq A8 (sSeq A9 sNil) (ev 11 (some (false, pol11)) (some (false, due11)) (some (false, row11)) (some (false, .int 6)) (some (false, tot11)) none) t = .nx (ev 11 (some (false, pol11)) (some (false, due11)) (some (false, row11)) (some (false, .int 6)) (some (false, tot11)) (some (false, .int 415998681))) t := by kernel_rfl
theorem q11_7 (t : Tin) : sSeq A8 (sSeq A9 sNil) (ev 11 (some (false, pol11)) (some (false, due11)) (some (false, row11)) (some (false, .int 7)) (some (false, tot11)) none) t = .nx (ev 11 (some (false, pol11)) (some (false, due11)) (some (false, row11)) (some (false, .int 7)) (some (false, tot11)) (some (false, .int 2393325424))) t := by kernel_rfl
theorem q11_8 (t : Tin) : sSeq A8 (sSeq A9 sNil) (ev 11 (some (false, pol11)) (some (false, due11)) (some (false, row11)) (some (false, .int 8)) (some (false, tot11)) none) t = .nx (ev 11 (some (false, pol11)) (some (false, due11)) (some (false, row11)) (some (false, .int 8)) (some (false, tot11)) (some (false, .int 10983260016))) t := by kernel_rfl
theorem q11_9 (t : Tin) : sSeq A8 (sSeq A9 sNil) (ev 11 (some (false, pol11)) (some (false, due11)) (some (false, row11)) (some (false, .int 9)) (some (false, tot11)) none) t = .nx (ev 11 (some (false, pol11)) (some (false, due11)) (some (false, row11)) (some (false, .int 9)) (some (false, tot11)) (some (false, .int 42364319625))) t := by kernel_rfl
theorem q11_10 (t : Tin) : sSeq A8 (sSeq A9 sNil) (ev 11 (some (false, pol11)) (some (false, due11)) (some (false, row11)) (some (false, .int 10)) (some (false, tot11)) none) t = .nx (ev 11 (some (false, pol11)) (some (false, due11)) (some (false, row11)) (some (false, .int 10)) (some (false, tot11)) (some (false, .int 142364319625))) t := by kernel_rfl
theorem q11_11 (t : Tin) : sSeq A8 (sSeq A9 sNil) (ev 11 (some (false, pol11)) (some (false, due11)) (some (false, row11)) (some (false, .int 11)) (some (false, tot11)) none) t = .nx (ev 11 (some (false, pol11)) (some (false, due11)) (some (false, row11)) (some (false, .int 11)) (some (false, tot11)) (some (false, .int 427675990236))) t := by kernel_rfl
theorem q11_12 (t : Tin) : sSeq A8 (sSeq A9 sNil) (ev 11 (some (false, pol11)) (some (false, due11)) (some (false, row11)) (some (false, .int 12)) (some (false, tot11)) none) t = .nx (ev 11 (some (false, pol11)) (some (false, due11)) (some (false, row11)) (some (false, .int 12)) (some (false, tot11)) (some (false, .int 1170684360924))) t := by kernel_rfl
theorem q11_13 (t : Tin) : sSeq A8 (sSeq A9 sNil) (ev 11 (some (false, pol11)) (some (false, due11)) (some (false, row11)) (some (false, .int 13)) (some (false, tot11)) none) t = .nx (ev 11 (some (false, pol11)) (some (false, due11)) (some (false, row11)) (some (false, .int 13)) (some (false, tot11)) (some (false, .int 2962844754961))) t := by kernel_rfl
theorem q11_14 (t : Tin) : sSeq A8 (sSeq A9 sNil) (ev 11 (some (false, pol11)) (some (false, due11)) (some (false, row11)) (some (false, .int 14)) (some (false, tot11)) none) t = .nx (ev 11 (some (false, pol11)) (some (false, due11)) (some (false, row11)) (some (false, .int 14)) (some (false, tot11)) (some (false, .int 7012409924625))) t := by kernel_rfl
theorem q11_15 (t : Tin) : sSeq A8 (sSeq A9 sNil) (ev 11 (some (false, pol11)) (some (false, due11)) (some (false, row11)) (some (false, .int 15)) (some (false, tot11)) none) t = .nx (ev 11 (some (false, pol11)) (some (false, due11)) (some (false, row11)) (some (false, .int 15)) (some (false, tot11)) (some (false, .int 15662165784000))) t := by kernel_rfl
theorem q11_16 (t : Tin) : sSeq A8 (sSeq A9 sNil) (ev 11 (some (false, pol11)) (some (false, due11)) (some (false, row11)) (some (false, .int 16)) (some (false, tot11)) none) t = .nx (ev 11 (some (false, pol11)) (some (false, due11)) (some (false, row11)) (some (false, .int 16)) (some (false, tot11)) (some (false, .int 33254351828416))) t := by kernel_rfl
theorem q11_17 (t : Tin) : sSeq A8 (sSeq A9 sNil) (ev 11 (some (false, pol11)) (some (false, due11)) (some (false, row11)) (some (false, .int 17)) (some (false, tot11)) none) t = .nx (ev 11 (some (false, pol11)) (some (false, due11)) (some (false, row11)) (some (false, .int 17)) (some (false, tot11)) (some (false, .int 67526248136049))) t := by kernel_rfl
theorem q11_18 (t : Tin) : sSeq A8 (sSeq A9 sNil) (ev 11 (some (false, pol11)) (some (false, due11)) (some (false, row11)) (some (false, .int 18)) (some (false, tot11)) none) t = .nx (ev 11 (some (false, pol11)) (some (false, due11)) (some (false, row11)) (some (false, .int 18)) (some (false, tot11)) (some (false, .int 131794658215281))) t := by kernel_rfl
theorem q11_19 (t : Tin) : sSeq A8 (sSeq A9 sNil) (ev 11 (some (false, pol11)) (some (false, due11)) (some (false, row11)) (some (false, .int 19)) (some (false, tot11)) none) t = .nx (ev 11 (some (false, pol11)) (some (false, due11)) (some (false, row11)) (some (false, .int 19)) (some (false, tot11)) (some (false, .int 248284917113500))) t := by kernel_rfl
theorem c11 (m : Int) (h0 : 0 ≤ m) (h1 : m < 20) (t : Tin) : R7 (ev 11 (some (false, pol11)) (some (false, due11)) (some (false, row11)) (some (false, .int m)) none none) t = .rt (.bl true) t := by
  have hm : m = 0 ∨ m = 1 ∨ m = 2 ∨ m = 3 ∨ m = 4 ∨ m = 5 ∨ m = 6 ∨ m = 7 ∨ m = 8 ∨ m = 9 ∨ m = 10 ∨ m = 11 ∨ m = 12 ∨ m = 13 ∨ m = 14 ∨ m = 15 ∨ m = 16 ∨ m = 17 ∨ m = 18 ∨ m = 19 := by omega
  rcases hm with rfl | rfl | rfl | rfl | rfl | rfl | rfl | rfl | rfl | rfl | rfl | rfl | rfl | rfl | rfl | rfl | rfl | rfl | rfl | rfl
  · exact (sSeq_nx (a7_11 _ t)).trans ((seq2 (q11_0 t)).trans ((sSeq_rt (a10_11 _ _ t))))
  · exact (sSeq_nx (a7_11 _ t)).trans ((seq2 (q11_1 t)).trans ((sSeq_rt (a10_11 _ _ t))))
  · exact (sSeq_nx (a7_11 _ t)).trans ((seq2 (q11_2 t)).trans ((sSeq_rt (a10_11 _ _ t))))
  · exact (sSeq_nx (a7_11 _ t)).trans ((seq2 (q11_3 t)).trans ((sSeq_rt (a10_11 _ _ t))))
  · exact (sSeq_nx (a7_11 _ t)).trans ((seq2 (q11_4 t)).trans ((sSeq_rt (a10_11 _ _ t))))
  · exact (sSeq_nx (a7_11 _ t)).trans ((seq2 (q11_5 t)).trans ((sSeq_rt (a10_11 _ _ t))))
  · exact (sSeq_nx (a7_11 _ t)).trans ((seq2 (q11_6 t)).trans ((sSeq_rt (a10_11 _ _ t))))
  · exact (sSeq_nx (a7_11 _ t)).trans ((seq2 (q11_7 t)).trans ((sSeq_rt (a10_11 _ _ t))))
  · exact (sSeq_nx (a7_11 _ t)).trans ((seq2 (q11_8 t)).trans ((sSeq_rt (a10_11 _ _ t))))
  · exact (sSeq_nx (a7_11 _ t)).trans ((seq2 (q11_9 t)).trans ((sSeq_rt (a10_11 _ _ t))))
  · exact (sSeq_nx (a7_11 _ t)).trans ((seq2 (q11_10 t)).trans ((sSeq_rt (a10_11 _ _ t))))
  · exact (sSeq_nx (a7_11 _ t)).trans ((seq2 (q11_11 t)).trans ((sSeq_rt (a10_11 _ _ t))))
  · exact (sSeq_nx (a7_11 _ t)).trans ((seq2 (q11_12 t)).trans ((sSeq_rt (a10_11 _ _ t))))
  · exact (sSeq_nx (a7_11 _ t)).trans ((seq2 (q11_13 t)).trans ((sSeq_rt (a10_11 _ _ t))))
  · exact (sSeq_nx (a7_11 _ t)).trans ((seq2 (q11_14 t)).trans ((sSeq_rt (a10_11 _ _ t))))
  · exact (sSeq_nx (a7_11 _ t)).trans ((seq2 (q11_15 t)).trans ((sSeq_rt (a10_11 _ _ t))))
  · exact (sSeq_nx (a7_11 _ t)).trans ((seq2 (q11_16 t)).trans ((sSeq_rt (a10_11 _ _ t))))
  · exact (sSeq_nx (a7_11 _ t)).trans ((seq2 (q11_17 t)).trans ((sSeq_rt (a10_11 _ _ t))))
  · exact (sSeq_nx (a7_11 _ t)).trans ((seq2 (q11_18 t)).trans ((sSeq_rt (a10_11 _ _ t))))
  · exact (sSeq_nx (a7_11 _ t)).trans ((seq2 (q11_19 t)).trans ((sSeq_rt (a10_11 _ _ t))))
theorem d11 (t : Tin) : R1 (ev 11 none none none none none none) t = R6 (ev 11 (some (false, pol11)) (some (false, due11)) (some (false, row11)) none none none) t := (sSeq_nx (a1_11 t)).trans ((sSeq_nx (a2_11 t)).trans ((sSeq_nx (a3_11 t)).trans ((sSeq_nx (a4_11 t)).trans (sSeq_nx (a5_11 t)))))
def pol12 : Val := (Val.tup [(Val.tup [(Val.int 0), (Val.int 1)]), (Val.tup [(Val.int 0), (Val.int 1)]), (Val.tup [(Val.int 0), (Val.int 1)]), (Val.tup [(Val.int 0), (Val.int 1)]), (Val.tup [(Val.int 0), (Val.int 1)]), (Val.tup [(Val.int 0), (Val.int 1)]), (Val.tup [(Val.int 0), (Val.int 1)]), (Val.tup [(Val.int 0), (Val.int 1)]), (Val.tup [(Val.int 0), (Val.int 1)]), (Val.tup [(Val.int 0), (Val.int 1)]), (Val.tup [(Val.int 0), (Val.int 1)]), (Val.tup [(Val.int 0), (Val.int 1)]), (Val.tup [(Val.int 1), (Val.int 1)])])
def due12 : Val := (Val.lst [(Val.int 0), (Val.int 1), (Val.int 4094), (Val.int 519156), (Val.int 14676024), (Val.int 165528000), (Val.int 953029440), (Val.int 3162075840), (Val.int 6411968640), (Val.int 8083152000), (Val.int 6187104000), (Val.int 2634508800), (Val.int 479001600)])
def row12 : Val := (Val.tup [(Val.tup [(Val.int 0), (Val.int 1)]), (Val.tup [(Val.int 1), (Val.int 1)]), (Val.tup [(Val.int 4096), (Val.int 1)]), (Val.tup [(Val.int 531441), (Val.int 1)]), (Val.tup [(Val.int 16777216), (Val.int 1)]), (Val.tup [(Val.int 244140625), (Val.int 1)]), (Val.tup [(Val.int 2176782336), (Val.int 1)]), (Val.tup [(Val.int 13841287201), (Val.int 1)]), (Val.tup [(Val.int 68719476736), (Val.int 1)]), (Val.tup [(Val.int 282429536481), (Val.int 1)]), (Val.tup [(Val.int 1000000000000), (Val.int 1)]), (Val.tup [(Val.int 3138428376721), (Val.int 1)]), (Val.tup [(Val.int 8916100448256), (Val.int 1)])])
def tot12 : Val := (Val.tup [(Val.tup [(Val.int 0), (Val.int 1)]), (Val.tup [(Val.int (-691)), (Val.int 2730)]), (Val.tup [(Val.int 0), (Val.int 1)]), (Val.tup [(Val.int 5), (Val.int 3)]), (Val.tup [(Val.int 0), (Val.int 1)]), (Val.tup [(Val.int (-33)), (Val.int 10)]), (Val.tup [(Val.int 0), (Val.int 1)]), (Val.tup [(Val.int 22), (Val.int 7)]), (Val.tup [(Val.int 0), (Val.int 1)]), (Val.tup [(Val.int (-11)), (Val.int 6)]), (Val.tup [(Val.int 0), (Val.int 1)]), (Val.tup [(Val.int 1), (Val.int 1)]), (Val.tup [(Val.int (-1)), (Val.int 2)]), (Val.tup [(Val.int 1), (Val.int 13)])])
theorem a1_12 (t : Tin) : A1 (ev 12 none none none none none none) t = .nx (ev 12 (some (false, pol12)) none none none none none) t := by kernel_rfl
theorem a2_12 (t : Tin) : A2 (ev 12 (some (false, pol12)) none none none none none) t = .nx (ev 12 (some (false, pol12)) (some (false, due12)) none none none none) t := by kernel_rfl
theorem a3_12 (t : Tin) : A3 (ev 12 (some (false, pol12)) (some (false, due12)) none none none none) t = .nx (ev 12 (some (false, pol12)) (some (false, due12)) none none none none) t := by kernel_rfl
theorem a4_12 (t : Tin) : A4 (ev 12 (some (false, pol12)) (some (false, due12)) none none none none) t = .nx (ev 12 (some (false, pol12)) (some (false, due12)) (some (false, row12)) none none none) t := by kernel_rfl
theorem a5_12 (t : Tin) : A5 (ev 12 (some (false, pol12)) (some (false, due12)) (some (false, row12)) none none none) t = .nx (ev 12 (some (false, pol12)) (some (false, due12)) (some (false, row12)) none none none) t := by kernel_rfl
theorem a7_12 (o : Option (Bool × Val)) (t : Tin) : A7 (ev 12 (some (false, pol12)) (some (false, due12)) (some (false, row12)) o none none) t = .nx (ev 12 (some (false, pol12)) (some (false, due12)) (some (false, row12)) o (some (false, tot12)) none) t := by kernel_rfl
theorem a10_12 (o q : Option (Bool × Val)) (t : Tin) : A10 (ev 12 (some (false, pol12)) (some (false, due12)) (some (false, row12)) o (some (false, tot12)) q) t = .rt (.bl true) t := by kernel_rfl
theorem q12_0 (t : Tin) : sSeq A8 (sSeq A9 sNil) (ev 12 (some (false, pol12)) (some (false, due12)) (some (false, row12)) (some (false, .int 0)) (some (false, tot12)) none) t = .nx (ev 12 (some (false, pol12)) (some (false, due12)) (some (false, row12)) (some (false, .int 0)) (some (false, tot12)) (some (false, .int 0))) t := by kernel_rfl
theorem q12_1 (t : Tin) : sSeq A8 (sSeq A9 sNil) (ev 12 (some (false, pol12)) (some (false, due12)) (some (false, row12)) (some (false, .int 1)) (some (false, tot12)) none) t = .nx (ev 12 (some (false, pol12)) (some (false, due12)) (some (false, row12)) (some (false, .int 1)) (some (false, tot12)) (some (false, .int 1))) t := by kernel_rfl
theorem q12_2 (t : Tin) : sSeq A8 (sSeq A9 sNil) (ev 12 (some (false, pol12)) (some (false, due12)) (some (false, row12)) (some (false, .int 2)) (some (false, tot12)) none) t = .nx (ev 12 (some (false, pol12)) (some (false, due12)) (some (false, row12)) (some (false, .int 2)) (some (false, tot12)) (some (false, .int 4097))) t := by kernel_rfl
theorem q12_3 (t : Tin) : sSeq A8 (sSeq A9 sNil) (ev 12 (some (false, pol12)) (some (false, due12)) (some (false, row12)) (some (false, .int 3)) (some (false, tot12)) none) t = .nx (ev 12 (some (false, pol12)) (some (false, due12)) (some (false, row12)) (some (false, .int 3)) (some (false, tot12)) (some (false, .int 535538))) t := by kernel_rfl
theorem q12_4 (t : Tin) : sSeq A8 (sSeq A9 sNil) (ev 12 (some (false, pol12)) (some (false, due12)) (some (false, row12)) (some (false, .int 4)) (some (false, tot12)) none) t = .nx (ev 12 (some (false, pol12)) (some (false, due12)) (some (false, row12)) (some (false, .int 4)) (some (false, tot12)) (some (false, .int 17312754))) t := by kernel_rfl
theorem q12_5 (t : Tin) : sSeq A8 (sSeq A9 sNil) (ev 12 (some (false, pol12)) (some (false, due12)) (some (false, row12)) (some (false, .int 5)) (some (false, tot12)) none) t = .nx (ev 12 (some (false, pol12)) (some (false, due12)) (some (false, row12)) (some (false, .int 5)) (some (false, tot12)) (some (false, .int 261453379))) t := by kernel_rfl
theorem q12_6 (t : Tin) : sSeq A8 (sSeq A9 sNil) (ev 12 (some (false, pol12)) (some (false, due12)) (some (false, row12)) (some (false, .int 6)) (some (false, tot12)) none) t = .nx (ev 12 (some (false, pol12)) (some (false, due12)) (some (false, row12)) (some (false, .int 6)) (some (false, tot12)) (some (false, .int 2438235715))) t := by kernel_rfl
theorem q12_7 (t : Tin) : sSeq A8 (sSeq A9 sNil) (ev 12 (some (false, pol12)) (some (false, due12)) (some (false, row12)) (some (false, .int 7)) (some (false, tot12)) none) t = .nx (ev 12 (some (false, pol12)) (some (false, due12)) (some (false, row12)) (some (false, .int 7)) (some (false, tot12)) (some (false, .int 16279522916))) t := by kernel_rfl
theorem q12_8 (t : Tin) : sSeq A8 (sSeq A9 sNil) (ev 12 (some (false, pol12)) (some (false, due12)) (some (false, row12)) (some (false, .int 8)) (some (false, tot12)) none) t = .nx (ev 12 (some (false, pol12)) (some (false, due12)) (some (false, row12)) (some (false, .int 8)) (some (false, tot12)) (some (false, .int 84998999652))) t := by kernel_rfl
theorem q12_9 (t : Tin) : sSeq A8 (sSeq A9 sNil) (ev 12 (some (false, pol12)) (some (false, due12)) (some (false, row12)) (some (false, .int 9)) (some (false, tot12)) none) t = .nx (ev 12 (some (false, pol12)) (some (false, due12)) (some (false, row12)) (some (false, .int 9)) (some (false, tot12)) (some (false, .int 367428536133))) t := by kernel_rfl
theorem q12_10 (t : Tin) : sSeq A8 (sSeq A9 sNil) (ev 12 (some (false, pol12)) (some (false, due12)) (some (false, row12)) (some (false, .int 10)) (some (false, tot12)) none) t = .nx (ev 12 (some (false, pol12)) (some (false, due12)) (some (false, row12)) (some (false, .int 10)) (some (false, tot12)) (some (false, .int 1367428536133))) t := by kernel_rfl
theorem q12_11 (t : Tin) : sSeq A8 (sSeq A9 sNil) (ev 12 (some (false, pol12)) (some (false, due12)) (some (false, row12)) (some (false, .int 11)) (some (false, tot12)) none) t = .nx (ev 12 (some (false, pol12)) (some (false, due12)) (some (false, row12)) (some (false, .int 11)) (some (false, tot12)) (some (false, .int 4505856912854))) t := by kernel_rfl
theorem q12_12 (t : Tin) : sSeq A8 (sSeq A9 sNil) (ev 12 (some (false, pol12)) (some (false, due12)) (some (false, row12)) (some (false, .int 12)) (some (false, tot12)) none) t = .nx (ev 12 (some (false, pol12)) (some (false, due12)) (some (false, row12)) (some (false, .int 12)) (some (false, tot12)) (some (false, .int 13421957361110))) t := by kernel_rfl
theorem q12_13 (t : Tin) : sSeq A8 (sSeq A9 sNil) (ev 12 (some (false, pol12)) (some (false, due12)) (some (false, row12)) (some (false, .int 13)) (some (false, tot12)) none) t = .nx (ev 12 (some (false, pol12)) (some (false, due12)) (some (false, row12)) (some (false, .int 13)) (some (false, tot12)) (some (false, .int 36720042483591))) t := by kernel_rfl
theorem q12_14 (t : Tin) : sSeq A8 (sSeq A9 sNil) (ev 12 (some (false, pol12)) (some (false, due12)) (some (false, row12)) (some (false, .int 14)) (some (false, tot12)) none) t = .nx (ev 12 (some (false, pol12)) (some (false, due12)) (some (false, row12)) (some (false, .int 14)) (some (false, tot12)) (some (false, .int 93413954858887))) t := by kernel_rfl
theorem q12_15 (t : Tin) : sSeq A8 (sSeq A9 sNil) (ev 12 (some (false, pol12)) (some (false, due12)) (some (false, row12)) (some (false, .int 15)) (some (false, tot12)) none) t = .nx (ev 12 (some (false, pol12)) (some (false, due12)) (some (false, row12)) (some (false, .int 15)) (some (false, tot12)) (some (false, .int 223160292749512))) t := by kernel_rfl
theorem q12_16 (t : Tin) : sSeq A8 (sSeq A9 sNil) (ev 12 (some (false, pol12)) (some (false, due12)) (some (false, row12)) (some (false, .int 16)) (some (false, tot12)) none) t = .nx (ev 12 (some (false, pol12)) (some (false, due12)) (some (false, row12)) (some (false, .int 16)) (some (false, tot12)) (some (false, .int 504635269460168))) t := by kernel_rfl
theorem q12_17 (t : Tin) : sSeq A8 (sSeq A9 sNil) (ev 12 (some (false, pol12)) (some (false, due12)) (some (false, row12)) (some (false, .int 17)) (some (false, tot12)) none) t = .nx (ev 12 (some (false, pol12)) (some (false, due12)) (some (false, row12)) (some (false, .int 17)) (some (false, tot12)) (some (false, .int 1087257506689929))) t := by kernel_rfl
theorem q12_18 (t : Tin) : sSeq A8 (sSeq A9 sNil) (ev 12 (some (false, pol12)) (some (false, due12)) (some (false, row12)) (some (false, .int 18)) (some (false, tot12)) none) t = .nx (ev 12 (some (false, pol12)) (some (false, due12)) (some (false, row12)) (some (false, .int 18)) (some (false, tot12)) (some (false, .int 2244088888116105))) t := by kernel_rfl
theorem q12_19 (t : Tin) : sSeq A8 (sSeq A9 sNil) (ev 12 (some (false, pol12)) (some (false, due12)) (some (false, row12)) (some (false, .int 19)) (some (false, tot12)) none) t = .nx (ev 12 (some (false, pol12)) (some (false, due12)) (some (false, row12)) (some (false, .int 19)) (some (false, tot12)) (some (false, .int 4457403807182266))) t := by kernel_rfl
theorem c12 (m : Int) (h0 : 0 ≤ m) (h1 : m < 20) (t : Tin) : R7 (ev 12 (some (false, pol12)) (some (false, due12)) (some (false, row12)) (some (false, .int m)) none none) t = .rt (.bl true) t := by
  have hm : m = 0 ∨ m = 1 ∨ m = 2 ∨ m = 3 ∨ m = 4 ∨ m = 5 ∨ m = 6 ∨ m = 7 ∨ m = 8 ∨ m = 9 ∨ m = 10 ∨ m = 11 ∨ m = 12 ∨ m = 13 ∨ m = 14 ∨ m = 15 ∨ m = 16 ∨ m = 17 ∨ m = 18 ∨ m = 19 := by omega
  rcases hm with rfl | rfl | rfl | rfl | rfl | rfl | rfl | rfl | rfl | rfl | rfl | rfl | rfl | rfl | rfl | rfl | rfl | rfl | rfl | rfl
  · exact (sSeq_nx (a7_12 _ t)).trans ((seq2 (q12_0 t)).trans ((sSeq_rt (a10_12 _ _ t))))
  · exact (sSeq_nx (a7_12 _ t)).trans ((seq2 (q12_1 t)).trans ((sSeq_rt (a10_12 _ _ t))))
  · exact (sSeq_nx (a7_12 _ t)).trans ((seq2 (q12_2 t)).trans ((sSeq_rt (a10_12 _ _ t))))
  · exact (sSeq_nx (a7_12 _ t)).trans ((seq2 (q12_3 t)).trans ((sSeq_rt (a10_12 _ _ t))))
  · exact (sSeq_nx (a7_12 _ t)).trans ((seq2 (q12_4 t)).trans ((sSeq_rt (a10_12 _ _ t))))
  · exact (sSeq_nx (a7_12 _ t)).trans ((seq2 (q12_5 t)).trans ((sSeq_rt (a10_12 _ _ t))))
  · exact (sSeq_nx (a7_12 _ t)).trans ((seq2 (q12_6 t)).trans ((sSeq_rt (a10_12 _ _ t))))
  · exact (sSeq_nx (a7_12 _ t)).trans ((seq2 (q12_7 t)).trans ((sSeq_rt (a10_12 _ _ t))))
  · exact (sSeq_nx (a7_12 _ t)).trans ((seq2 (q12_8 t)).trans ((sSeq_rt (a10_12 _ _ t))))
  · exact (sSeq_nx (a7_12 _ t)).trans ((seq2 (q12_9 t)).trans ((sSeq_rt (a10_12 _ _ t))))
  · exact (sSeq_nx (a7_12 _ t)).trans ((seq2 (q12_10 t)).trans ((sSeq_rt (a10_12 _ _ t))))
  · exact (sSeq_nx (a7_12 _ t)).trans ((seq2 (q12_11 t)).trans ((sSeq_rt (a10_12 _ _ t))))
  · exact (sSeq_nx (a7_12 _ t)).trans ((seq2 (q12_12 t)).trans ((sSeq_rt (a10_12 _ _ t))))
  · exact (sSeq_nx (a7_12 _ t)).trans ((seq2 (q12_13 t)).trans ((sSeq_rt (a10_12 _ _ t))))
  · exact (sSeq_nx (a7_12 _ t)).trans ((seq2 (q12_14 t)).trans ((sSeq_rt (a10_12 _ _ t))))
  · exact (sSeq_nx (a7_12 _ t)).trans ((seq2 (q12_15 t)).trans ((sSeq_rt (a10_12 _ _ t))))
  · exact (sSeq_nx (a7_12 _ t)).trans ((seq2 (q12_16 t)).trans ((sSeq_rt (a10_12 _ _ t))))
  · exact (sSeq_nx (a7_12 _ t)).trans ((seq2 (q12_17 t)).trans ((sSeq_rt (a10_12 _ _ t))))
  · exact (sSeq_nx (a7_12 _ t)).trans ((seq2 (q12_18 t)).trans ((sSeq_rt (a10_12 _ _ t))))
  · exact (sSeq_nx (a7_12 _ t)).trans ((seq2 (q12_19 t)).trans ((sSeq_rt (a10_12 _ _ t))))
theorem d12 (t : Tin) : R1 (ev 12 none none none none none none) t = R6 (ev 12 (some (false, pol12)) (some (false, due12)) (some (false, row12)) none none none) t := (sSeq_nx (a1_12 t)).trans ((sSeq_nx (a2_12 t)).trans ((sSeq_nx (a3_12 t)).trans ((sSeq_nx (a4_12 t)).trans (sSeq_nx (a5_12 t)))))
theorem right_ok (n : Nat) (t : Tin) (g : Good (n + 2) t) : ∃ t', g__law_right [.tin] t = .ok (.bl true) t' ∧ Good n t' := by
  obtain ⟨p, t1, e1, p0, p1, g1⟩ := take_ok (below := 13) g (by decide) (by decide)
  obtain ⟨m, t2, e2, m0, m1, g2⟩ := take_ok (below := 20) g1 (by decide) (by decide)
  have first : R0 (env0 11 [.tin]) t = R1 (ev p none none none none none none) t1 := sSeq_nx (sAsg_ok (eTup_ok (aCons_ok rfl (aCons_ok (eCall_ok (aCons_ok rfl (aCons_ok rfl rfl)) e1) rfl)) (show 2 ≤ lim by decide)) rfl)
  have six : ∀ a b c, R6 (ev p a b c none none none) t1 = R7 (ev p a b c (some (false, .int m)) none none) t2 := fun a b c => sSeq_nx (show sAsg (Nf.gName 6) (eCall GR c__law_take (aCons (eVar 0) (aCons (eC (.int 20)) aNil))) (ev p a b c none none none) t1 = .nx (ev p a b c (some (false, .int m)) none none) t2 from sAsg_ok (eCall_ok (vs := [.tin, .int 20]) rfl e2) rfl)
  refine ⟨t2, runDef_rt rfl (first.trans ?_), g2⟩
  have hp : p = 0 ∨ p = 1 ∨ p = 2 ∨ p = 3 ∨ p = 4 ∨ p = 5 ∨ p = 6 ∨ p = 7 ∨ p = 8 ∨ p = 9 ∨ p = 10 ∨ p = 11 ∨ p = 12 := by omega
  rcases hp with rfl | rfl | rfl | rfl | rfl | rfl | rfl | rfl | rfl | rfl | rfl | rfl | rfl
  · exact (d0 t1).trans ((six _ _ _).trans (c0 m m0 m1 t2))
  · exact (d1 t1).trans ((six _ _ _).trans (c1 m m0 m1 t2))
  · exact (d2 t1).trans ((six _ _ _).trans (c2 m m0 m1 t2))
  · exact (d3 t1).trans ((six _ _ _).trans (c3 m m0 m1 t2))
  · exact (d4 t1).trans ((six _ _ _).trans (c4 m m0 m1 t2))
  · exact (d5 t1).trans ((six _ _ _).trans (c5 m m0 m1 t2))
  · exact (d6 t1).trans ((six _ _ _).trans (c6 m m0 m1 t2))
  · exact (d7 t1).trans ((six _ _ _).trans (c7 m m0 m1 t2))
  · exact (d8 t1).trans ((six _ _ _).trans (c8 m m0 m1 t2))
  · exact (d9 t1).trans ((six _ _ _).trans (c9 m m0 m1 t2))
  · exact (d10 t1).trans ((six _ _ _).trans (c10 m m0 m1 t2))
  · exact (d11 t1).trans ((six _ _ _).trans (c11 m m0 m1 t2))
  · exact (d12 t1).trans ((six _ _ _).trans (c12 m m0 m1 t2))
theorem pure_law (ns : List Int) (hl : ns.length ≤ 63) (hb : ∀ z ∈ ns, Builtin.Int.intBits z ≤ 1048576) : lawRun (e_tin GL) (e_all GL) 3 ns :=
  pure_of 2 4 (by decide) (by decide) right_ok rfl ns hl hb

end NfLaw
namespace NfLaw
open PySem PySem.Spec PyProof.Rows L2 Nf
def nm0 : List PySem.Str := ["CanNot", "Unfit", "is_number", "is_within", "sure_within", "is_long", "are_numbers", "ascends", "tupled", "common_of", "least_of", "slim", "plus", "times", "is_fraction", "primes_of", "back_by", "joined_rest", "MOST_BY", "MOST_MADE", "MOST_MORE", "MOST_MEMBER", "told_set", "is_told", "is_set", "sure_set", "parts_of", "factorial_power", "row_of", "digit_of"]
def nm1 : List PySem.Str := ["order_row", "powers_row", "some_members", "primes_in", "factorial_by", "MOST_DEGREE", "MOST_ENTRY", "MOST_AT", "NOUGHT", "is_poly", "sure_poly", "bare", "plus_in", "scaled_in", "whole_row", "value_in", "roots_product", "MOST_BASE", "places_in", "base_in", "shares_in", "sum_in", "sure_low", "poly_shares", "shares_sum", "lowered", "MOST_VALUES", "sure_values", "gaps_of", "chosen_in"]
def nm2 : List PySem.Str := ["by_gaps", "sum_of", "row_gaps", "row_poly", "poly_row", "sum_poly", "stretch_sum", "whole_shares_in", "whole_shares", "_law_box", "_law_take", "_law_cells", "_law_same", "_law_gcd", "_law_slim", "_law_plus", "_law_times", "_law_value", "_law_size", "_law_ways", "_law_right"]
def nms : List PySem.Str := nm0 ++ nm1 ++ nm2
abbrev R : PySem.W.OpenRow := PySem.W.OpenLaw.row PySem.Challenge.rw_neverfraction_k48_across_powers_by_chose
abbrev hk : PySem.W.Hook := hookU 4 fa fn tu
def ob (s : PySem.W.SharedT) : AlU := obsUG 4 fa fn tu (HandSHeadRun.getT s)
theorem ob_eq (s : PySem.W.SharedT) : ob s = hk.obs s.abs := obsUG_eq (HandSHeadRun.getT_eq s)
theorem run (w : World) : HandSHeadRun.RunEq R (PySem.W.view R.prog [91]) hk ob 6000 nms w := by
  intro os
  kernel_rfl
end NfLaw
open PySem PySem.W PySem.Calls PyProof.Rows
theorem PySem.Challenge.cw_neverfraction_k48_across_powers_by_chose_holds : PySem.Challenge.rw_neverfraction_k48_across_powers_by_chose.Holds := by
  w_on; o_law
  refine HandSHeadRun.head_any (r := OpenLaw.row PySem.Challenge.rw_neverfraction_k48_across_powers_by_chose) (q := view (OpenLaw.row PySem.Challenge.rw_neverfraction_k48_across_powers_by_chose).prog [91]) (H := NfLaw.hk) (ob := NfLaw.ob) (M := 6000) (loose := NfLaw.nms) (d := HandSHeadRun.topDef (OpenLaw.row PySem.Challenge.rw_neverfraction_k48_across_powers_by_chose).prog 91) (kwd := []) NfLaw.ob_eq
    (by kernel_rfl) (fun s => by kernel_rfl) NfLaw.run (by kernel_rfl) (by kernel_rfl) (by kernel_rfl) (by rfl) (by first | assumption | decide +kernel) (by decide +kernel) ⟨rfl, rfl, rfl, rfl, rfl, by decide +kernel⟩ ?hw ?hc
  case hw => w_witness2
  case hc =>
    refine Nf.walk_ofEB (l := PySem.Challenge.rw_neverfraction_k48_across_powers_by_chose) (n := 63) (k := 19) (x := "script") (CX := L2.CX0) rfl (by decide) (by kernel_rfl) ⟨rfl, by decide, by decide⟩ ?F (fun _ _ _ _ z => z)
    intro w mg fa h Y G hmg0
    obtain ⟨K, KX, c0⟩ := Y
    have c : Nf.Cn NfLaw.fa NfLaw.fn NfLaw.tu K mg := ⟨c0, h, KX, G⟩
    have hmg : mg ("law" : PySem.Str) = some (.ref fa) := by
      have e : (HandSHeadRun.topDef (OpenLaw.row PySem.Challenge.rw_neverfraction_k48_across_powers_by_chose).prog 91).name = ("law" : PySem.Str) := by kernel_rfl
      rw [← e]
      exact hmg0
    have e := hmg.symm.trans (c.g 69 rfl)
    cases e
    exact ⟨K, Nf.fdOf K (He.ga K "law"), Nf.spLaw K (Nf.lawRun (NfLaw.e_tin NfLaw.GL) (NfLaw.e_all NfLaw.GL) 3), KX,
      fun s v => L2.FunD.bindsA (ps := ["script"]) (NfLaw.f_law c) (fun _ _ _ _ _ _ us hl => match us, hl with | [_], _ => rfl) s [v] rfl,
      fun H a ns hl hb hO hS => ⟨a, ns, rfl, hS, hO, NfLaw.pure_law ns hl hb, fun _ => rfl⟩, fun base _ _ => NfLaw.o_law c⟩
