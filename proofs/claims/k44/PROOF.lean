import PyProof.Rows.All
import Wide.All
import OpenK.AllK
import Wide.FinOn
import HandS.ForMost
import HandS.Wide
import HandS.TupAny
import HandS.TupMul
import HandS.Flow
import HandS.Zip
import HandS.Rev
import HandS.IsInst
import HandS.SortInts
import HandS.Deep
import HandS.WideBits
import KE.DatumOrd
import HandS.Iter
import KE.GoesMore
import HandS.Comp
import HandS.Conv
import HandS.BoundList
import HandS.Style
import HandS.Ends
import HandS.Defaults
import HandS.More
import HandS.Head0
import HandS.Head1
import HandS.Head2
import HandS.HeadEnd
import HandS.HeadHook1
import HandS.HeadHook2
import HandS.EndBits
import KE.KStateDown
import HandS.Words
import HandS.WordsExc
import PySem.Challenge.RW_neverfraction_k44_across_chosen_by_figur
set_option Elab.async false
set_option linter.all false
set_option maxRecDepth 100000
set_option maxHeartbeats 0
/-! Values, results, denotations: plain Lean. -/
namespace Nf

/-- a value, structural -/
inductive Val where
  | non
  | bl (b : Bool)
  | int (i : Int)
  | str (s : String)
  | tup (xs : List Val)
  | lst (xs : List Val)
  | iset (xs : List Int)
  | dct (kvs : List (Int × Val))
  | tin
  | fn (k : Nat)
  | scr (ns : List Int)
  deriving Inhabited

/-- the list of draws: three intsOf -/
structure Tin where
  a : Int
  b : Int
  c : Int

inductive Res (α : Type) where
  | ok (v : α) (t : Tin)
  | exc (k : Nat) (t : Tin)
  | bad

abbrev M (α : Type) : Type := Tin → Res α

def Res.bind {α β : Type} (r : Res α) (f : α → M β) : Res β :=
  match r with
  | .ok v t => f v t
  | .exc k t => .exc k t
  | .bad => .bad

/-- what is raised does not pass -/
def Res.bindN {α β : Type} (r : Res α) (f : α → M β) : Res β :=
  match r with
  | .ok v t => f v t
  | .exc _ _ => .bad
  | .bad => .bad

@[simp] theorem Res.bind_ok {α β : Type} (v : α) (t : Tin) (f : α → M β) : (Res.ok v t).bind f = f v t := rfl
@[simp] theorem Res.bind_exc {α β : Type} (k : Nat) (t : Tin) (f : α → M β) : (Res.exc k t : Res α).bind f = .exc k t := rfl
@[simp] theorem Res.bind_bad {α β : Type} (f : α → M β) : (Res.bad : Res α).bind f = .bad := rfl
@[simp] theorem Res.bindN_ok {α β : Type} (v : α) (t : Tin) (f : α → M β) : (Res.ok v t).bindN f = f v t := rfl
@[simp] theorem Res.bindN_exc {α β : Type} (k : Nat) (t : Tin) (f : α → M β) : (Res.exc k t : Res α).bindN f = .bad := rfl
@[simp] theorem Res.bindN_bad {α β : Type} (f : α → M β) : (Res.bad : Res α).bindN f = .bad := rfl

/-- an env: by slot, whether the list is the frame's own, its value -/
abbrev Env : Type := List (Option (Bool × Val))
abbrev E : Type := Env → M Val
abbrev T : Type := Env → M Bool
abbrev A : Type := Env → M (List Val)
abbrev G : Type := Val → Env → Option Env

/-- the most items of a list or tuple -/
abbrev lim : Nat := 1000000

/-! ### expressions -/
def eVar (i : Nat) : E := fun env t => match env[i]? with
  | some (some (false, v)) => .ok v t
  | _ => .bad
/-- a name read where its list is not kept -/
def eOwn (i : Nat) : E := fun env t => match env[i]? with
  | some (some (_, v)) => .ok v t
  | _ => .bad
def eC (v : Val) : E := fun _ t => .ok v t
def eOp (op : Val → Val → Option Val) (f g : E) : E := fun env t =>
  (f env t).bind fun v t1 => (g env t1).bind fun w t2 => match op v w with
    | some z => .ok z t2
    | none => .bad
def eUn (op : Val → Option Val) (f : E) : E := fun env t =>
  (f env t).bind fun v t1 => match op v with
    | some z => .ok z t1
    | none => .bad
def aNil : A := fun _ t => .ok [] t
def aCons (f : E) (g : A) : A := fun env t => (f env t).bind fun v t1 => (g env t1).bind fun vs t2 => .ok (v :: vs) t2
def eTup (a : A) : E := fun env t => (a env t).bind fun vs t1 => if vs.length ≤ lim then .ok (.tup vs) t1 else .bad
def eLst (a : A) : E := fun env t => (a env t).bind fun vs t1 => if vs.length ≤ lim then .ok (.lst vs) t1 else .bad
/-- a built-in by the values of its arguments -/
def eB (op : List Val → Option Val) (a : A) : E := fun env t => (a env t).bind fun vs t1 => match op vs with
  | some z => .ok z t1
  | none => .bad
abbrev Gam : Type := Nat → List Val → M Val
def eCall (Γ : Gam) (k : Nat) (a : A) : E := fun env t => (a env t).bind fun vs t1 => (Γ k vs t1).bindN fun v t2 => .ok v t2
def eIf (c : T) (f g : E) : E := fun env t => (c env t).bind fun b t1 => if b then f env t1 else g env t1
mutual
/-- no list within -/
def Val.noLst : Val → Bool
  | .lst _ => false
  | .iset _ => false
  | .dct _ => false
  | .tup xs => noLstL xs
  | _ => true
def noLstL : List Val → Bool
  | [] => true
  | x :: xs => x.noLst && noLstL xs
end
/-- a call whose lists are lent: its value holds none -/
def eCallB (Γ : Gam) (k : Nat) (a : A) : E := fun env t => (a env t).bind fun vs t1 => (Γ k vs t1).bindN fun v t2 => if v.noLst then .ok v t2 else .bad
/-- tin[k] -/
def eTin (i k : Nat) : E := fun env t => match env[i]? with
  | some (some (false, .tin)) => (match k with
    | 0 => .ok (.int t.a) t
    | 1 => .ok (.int t.b) t
    | 2 => .ok (.int t.c) t
    | _ => .bad)
  | _ => .bad

/-- a value's truth -/
def tru : Val → Option Bool
  | .non => some false
  | .bl b => some b
  | .int i => some (i != 0)
  | .tup xs => some (!xs.isEmpty)
  | .lst xs => some (!xs.isEmpty)
  | _ => none
def eAnd (f g : E) : E := fun env t => (f env t).bind fun v t1 => match tru v with
  | some true => g env t1
  | some false => .ok v t1
  | none => .bad
def eOr (f g : E) : E := fun env t => (f env t).bind fun v t1 => match tru v with
  | some true => .ok v t1
  | some false => g env t1
  | none => .bad
def eNot (f : E) : E := fun env t => (f env t).bind fun v t1 => match tru v with
  | some b => .ok (.bl (!b)) t1
  | none => .bad

/-! ### tests -/
def tTru (f : E) : T := fun env t => (f env t).bind fun v t1 => match tru v with
  | some b => .ok b t1
  | none => .bad
/-- the test of a comparison -/
def tBl (f : E) : T := fun env t => (f env t).bind fun v t1 => match v with
  | .bl b => .ok b t1
  | _ => .bad
def tAnd (c d : T) : T := fun env t => (c env t).bind fun b t1 => if b then d env t1 else .ok false t1
def tOr (c d : T) : T := fun env t => (c env t).bind fun b t1 => if b then .ok true t1 else d env t1
def tNot (c : T) : T := fun env t => (c env t).bind fun b t1 => .ok (!b) t1
def tYes : T := fun _ t => .ok true t

/-! ### targets -/
def gName (i : Nat) : G := fun v env => if i < env.length then some (env.set i (some (false, v))) else none
def gsL : List G → List Val → Env → Option Env
  | [], [], env => some env
  | g :: gs, v :: vs, env => (g v env).bind (gsL gs vs)
  | _, _, _ => none
/-- a tuple taken apart -/
def gTup (gs : List G) : G := fun v env => match v with
  | .tup vs => gsL gs vs env
  | _ => none

def wipe (env : Env) : List Nat → Env
  | [] => env
  | v :: vs => (wipe env vs).set v none

/-! ### comprehensions -/
abbrev It : Type := Env → M (List Val)
def compLoop (g : G) (c : T) (f : E) (env : Env) : List Val → M (List Val)
  | [], t => .ok [] t
  | x :: xs, t => match g x env with
    | none => .bad
    | some env1 => (c env1 t).bindN fun b t1 =>
      if b then (f env1 t1).bindN fun v t2 => (compLoop g c f env xs t2).bindN fun vs t3 => .ok (v :: vs) t3
      else compLoop g c f env xs t1
def eComp (it : It) (g : G) (own : List Nat) (c : T) (f : E) : E := fun env t =>
  (it env t).bind fun xs t1 => if xs.length ≤ lim then (compLoop g c f (wipe env own) xs t1).bindN fun vs t2 => .ok (.lst vs) t2 else .bad

/-- what a for walks: the items of a list, a tuple -/
def items : Val → Option (List Val)
  | .tup xs => some xs
  | .lst xs => some xs
  | _ => none
def iSeq (f : E) : It := fun env t => (f env t).bind fun v t1 => match items v with
  | some xs => .ok xs t1
  | none => .bad
def rangeL (lo hi : Int) : List Val := (List.range (hi - lo).toNat).map fun (k : Nat) => Val.int (lo + (k : Int))
def iRange1 (a : A) : It := fun env t => (a env t).bind fun vs t1 => match vs with
  | [.int j] => if j ≤ lim ∧ -lim ≤ j then .ok (rangeL 0 j) t1 else .bad
  | _ => .bad
def iRange2 (a : A) : It := fun env t => (a env t).bind fun vs t1 => match vs with
  | [.int i, .int j] => if -lim ≤ i ∧ i ≤ lim ∧ -lim ≤ j ∧ j ≤ lim then .ok (rangeL i j) t1 else .bad
  | _ => .bad
def enumL (xs : List Val) : List Val := xs.zipIdx.map fun p => Val.tup [.int p.2, p.1]
def iEnum (a : A) : It := fun env t => (a env t).bind fun vs t1 => match vs with
  | [.tup xs] => .ok (enumL xs) t1
  | [.lst xs] => .ok (enumL xs) t1
  | _ => .bad
def zipL (xs ys : List Val) : List Val := List.zipWith (fun x y => Val.tup [x, y]) xs ys
def iZip (a : A) : It := fun env t => (a env t).bind fun vs t1 => match vs with
  | [.tup xs, .tup ys] => .ok (zipL xs ys) t1
  | [.lst xs, .lst ys] => .ok (zipL xs ys) t1
  | _ => .bad
def iRev (f : E) : It := fun env t => (f env t).bind fun v t1 => match items v with
  | some xs => .ok xs.reverse t1
  | none => .bad

/-! ### statements -/
inductive RS where
  | nx (env : Env) (t : Tin)
  | rt (v : Val) (t : Tin)
  | bk (env : Env) (t : Tin)
  | ct (env : Env) (t : Tin)
  | exc (k : Nat) (t : Tin)
  | bad
abbrev S : Type := Env → Tin → RS

def Res.toS {α : Type} (r : Res α) (f : α → Tin → RS) : RS :=
  match r with
  | .ok v t => f v t
  | .exc k t => .exc k t
  | .bad => .bad
@[simp] theorem Res.toS_ok {α : Type} (v : α) (t : Tin) (f : α → Tin → RS) : (Res.ok v t).toS f = f v t := rfl
@[simp] theorem Res.toS_exc {α : Type} (k : Nat) (t : Tin) (f : α → Tin → RS) : (Res.exc k t : Res α).toS f = .exc k t := rfl
@[simp] theorem Res.toS_bad {α : Type} (f : α → Tin → RS) : (Res.bad : Res α).toS f = .bad := rfl

def sNil : S := fun env t => .nx env t
def sSeq (s1 s2 : S) : S := fun env t => match s1 env t with
  | .nx env' t' => s2 env' t'
  | r => r
def sBad : S := fun _ _ => .bad
def sBreak : S := fun env t => .bk env t
def sCont : S := fun env t => .ct env t
/-- every list of the frame's own is given away -/
def frzAll (env : Env) : Env := env.map fun o => o.map fun p => (false, p.2)
def frz1 (i : Nat) (env : Env) : Env := match env[i]? with
  | some (some p) => env.set i (some (false, p.2))
  | _ => env
def sFrz (i : Nat) (s : S) : S := fun env t => s (frz1 i env) t
def sRet (f : E) : S := fun env t => (f (frzAll env) t).toS fun v t' => .rt v t'
def sIf (c : T) (a b : S) : S := fun env t => (c env t).toS fun k t1 => if k then a env t1 else b env t1
def sAsg (g : G) (f : E) : S := fun env t => (f env t).toS fun v t1 => match g v env with
  | some env' => .nx env' t1
  | none => .bad
/-- a name takes a new list of its own -/
def sAsgO (i : Nat) (f : E) : S := fun env t => (f env t).toS fun v t1 => if i < env.length then .nx (env.set i (some (true, v))) t1 else .bad
/-- several names at once, from the right; each with whether its list is new -/
def putAll : List (Nat × Bool) → List Val → Env → Option Env
  | [], [], env => some env
  | p :: ps, v :: vs, env => (putAll ps vs env).bind fun e => if p.1 < e.length then some (e.set p.1 (some (p.2, v))) else none
  | _, _, _ => none
def sPar (ps : List (Nat × Bool)) (a : A) : S := fun env t => (a env t).toS fun vs t1 => match putAll ps vs env with
  | some env' => .nx env' t1
  | none => .bad
def sDrop (f : E) : S := fun env t => (f env t).toS fun _ t1 => .nx env t1
def sRaise (k : Nat) : S := fun _ t => .exc k t

/-- the frame's own list at a name -/
def ownL (i : Nat) (env : Env) : Option (List Val) := match env[i]? with
  | some (some (true, .lst xs)) => some xs
  | _ => none
def putL (i : Nat) (xs : List Val) (env : Env) : Env := env.set i (some (true, .lst xs))
/-- name.append(e) -/
def sApp (i : Nat) (f : E) : S := fun env t => match ownL i env with
  | some xs => (f env t).toS fun v t1 => if xs.length < lim then .nx (putL i (xs ++ [v]) env) t1 else .bad
  | none => .bad
/-- name.extend(e) -/
def sExt (i : Nat) (f : E) : S := fun env t => match ownL i env with
  | some xs => (f env t).toS fun v t1 => (match v with
    | .lst ys => if xs.length + ys.length ≤ lim then .nx (putL i (xs ++ ys) env) t1 else .bad
    | _ => .bad)
  | none => .bad
/-- an index as it stands in a list of n items -/
def ixOf (n : Nat) (i : Int) : Option Nat := if 0 ≤ i then (if i < n then some i.toNat else none) else if -(n : Int) ≤ i then some (i + n).toNat else none
/-- name[e] = f -/
def sSet (i : Nat) (ix f : E) : S := fun env t => match ownL i env with
  | some xs => (f env t).toS fun v t1 => (ix env t1).toS fun w t2 => (match w with
    | .int k => (match ixOf xs.length k with
      | some j => .nx (putL i (xs.set j v) env) t2
      | none => .bad)
    | _ => .bad)
  | none => .bad
/-- name[e] += f -/
def sAugIx (op : Val → Val → Option Val) (i : Nat) (ix f : E) : S := fun env t => match ownL i env with
  | some xs => (ix env t).toS fun w t1 => (match w with
    | .int k => (match ixOf xs.length k with
      | some j => (match xs[j]? with
        | some x => (f env t1).toS fun y t2 => (match op x y with
          | some z => .nx (putL i (xs.set j z) env) t2
          | none => .bad)
        | none => .bad)
      | none => .bad)
    | _ => .bad)
  | none => .bad
/-- name.pop() -/
def sPop (i : Nat) : S := fun env t => match ownL i env with
  | some xs => if xs = [] then .bad else .nx (putL i xs.dropLast env) t
  | none => .bad
/-- tin[k] = e -/
def sTin (i k : Nat) (f : E) : S := fun env t => (f env t).toS fun v t1 => match env[i]?, v with
  | some (some (false, .tin)), .int z => (match k with
    | 0 => .nx env { t1 with a := z }
    | 1 => .nx env { t1 with b := z }
    | 2 => .nx env { t1 with c := z }
    | _ => .bad)
  | _, _ => .bad

def forLoop (g : G) (body : S) : List Val → S
  | [], env, t => .nx env t
  | x :: xs, env, t => match g x env with
    | none => .bad
    | some env1 => match body env1 t with
      | .nx e t1 => forLoop g body xs e t1
      | .ct e t1 => forLoop g body xs e t1
      | .bk e t1 => .nx e t1
      | r => r
def sFor (it : It) (g : G) (body : S) : S := fun env t => (it env t).toS fun xs t1 => forLoop g body xs env t1

def whileN (c : T) (body : S) : Nat → S
  | 0, _, _ => .bad
  | n + 1, env, t => (c env t).toS fun b t1 => if b then (match body env t1 with
      | .nx e t2 => whileN c body n e t2
      | .ct e t2 => whileN c body n e t2
      | .bk e t2 => .nx e t2
      | r => r) else .nx env t1
/-- the most turns -/
abbrev fuel : Nat := 1000000000
def sWhile (c : T) (body : S) : S := whileN c body fuel

theorem whileN_mono (c : T) (body : S) : ∀ (n k : Nat) (env : Env) (t : Tin), whileN c body n env t ≠ .bad → whileN c body (n + k) env t = whileN c body n env t
  | 0, _, _, _, h => absurd rfl h
  | n + 1, k, env, t, h => by
    rw [Nat.add_right_comm n 1 k]
    unfold whileN at h ⊢
    cases hc : c env t with
    | bad => rfl
    | exc j t1 => rfl
    | ok b t1 =>
      rw [hc] at h
      simp only [Res.toS_ok] at h ⊢
      cases b with
      | false => rfl
      | true =>
        simp only [if_true] at h ⊢
        cases hb : body env t1 with
        | nx e t2 => rw [hb] at h; exact whileN_mono c body n k e t2 h
        | ct e t2 => rw [hb] at h; exact whileN_mono c body n k e t2 h
        | bk e t2 => rfl
        | rt v t2 => rfl
        | exc j t2 => rfl
        | bad => rfl

theorem sWhile_of {c : T} {body : S} {n : Nat} {env : Env} {t : Tin} {r : RS} (h : whileN c body n env t = r) (hr : r ≠ .bad) (hn : n ≤ fuel) : sWhile c body env t = r := by
  obtain ⟨k, hk⟩ := Nat.exists_eq_add_of_le hn
  unfold sWhile
  rw [hk, whileN_mono c body n k env t (by rw [h]; exact hr), h]

/-! ### a def -/
def env0 (n : Nat) (args : List Val) : Env := args.map (fun v => some (false, v)) ++ List.replicate (n - args.length) none
/-- p parameters, n slots -/
def runDef (p n : Nat) (s : S) (args : List Val) : M Val := fun t =>
  if args.length = p then (match s (env0 n args) t with
    | .rt v t' => .ok v t'
    | .nx _ t' => .ok .non t'
    | .exc k t' => .exc k t'
    | _ => .bad) else .bad

/-! ### operators -/
def bitsOk (i j : Int) : Bool := decide (i.natAbs.log2 + j.natAbs.log2 < 134000000)
def oAdd : Val → Val → Option Val
  | .int i, .int j => some (.int (i + j))
  | .tup xs, .tup ys => if xs.length + ys.length ≤ lim then some (.tup (xs ++ ys)) else none
  | .lst xs, .lst ys => if xs.length + ys.length ≤ lim then some (.lst (xs ++ ys)) else none
  | _, _ => none
def oSub : Val → Val → Option Val
  | .int i, .int j => some (.int (i - j))
  | _, _ => none
def rep (k : Int) (xs : List Val) : List Val := (List.replicate k.toNat xs).flatten
def oMul : Val → Val → Option Val
  | .int i, .int j => if bitsOk i j then some (.int (i * j)) else none
  | .tup xs, .int k => if xs ≠ [] ∧ k ≤ 1000 ∧ -1000 ≤ k ∧ xs.length ≤ 1000 then some (.tup (rep k xs)) else none
  | .lst xs, .int k => if k ≤ 1000 ∧ -1000 ≤ k ∧ xs.length ≤ 1000 then some (.lst (rep k xs)) else none
  | _, _ => none
def oMulL : Val → Val → Option Val
  | .lst xs, .int k => if k ≤ 1000 ∧ -1000 ≤ k ∧ xs.length ≤ 1000 then some (.lst (rep k xs)) else none
  | _, _ => none
def oDiv : Val → Val → Option Val
  | .int i, .int j => if j ≠ 0 ∧ j.natAbs.log2 < 9000 then some (.int (i.fdiv j)) else none
  | _, _ => none
def oMod : Val → Val → Option Val
  | .int i, .int j => if j ≠ 0 then some (.int (i.fmod j)) else none
  | _, _ => none
def oPow : Val → Val → Option Val
  | .int i, .int j => if 0 ≤ j ∧ j ≤ 1000 ∧ i.natAbs < 2 ^ 64 then some (.int (i ^ j.toNat)) else none
  | _, _ => none
def uNeg : Val → Option Val
  | .int i => some (.int (-i))
  | _ => none

/-! ### equality of data -/
mutual
/-- data: no table, no set, no function -/
def Val.data : Val → Bool
  | .non => true
  | .bl _ => true
  | .int _ => true
  | .str s => s.toList.all fun c => decide (c.toNat < 128)
  | .tup xs => dataL xs
  | .lst xs => dataL xs
  | _ => false
def dataL : List Val → Bool
  | [] => true
  | x :: xs => x.data && dataL xs
end
mutual
/-- Python's == of data -/
def veq : Val → Val → Bool
  | .non, .non => true
  | .bl a, .bl b => a == b
  | .int a, .int b => decide (a = b)
  | .bl a, .int b => decide ((if a then 1 else 0) = b)
  | .int a, .bl b => decide (a = (if b then 1 else 0))
  | .str a, .str b => decide (a = b)
  | .tup xs, .tup ys => veqL xs ys
  | .lst xs, .lst ys => veqL xs ys
  | _, _ => false
def veqL : List Val → List Val → Bool
  | [], [] => true
  | x :: xs, y :: ys => veq x y && veqL xs ys
  | _, _ => false
end
mutual
def Val.depth : Val → Nat
  | .tup xs => depthL xs + 1
  | .lst xs => depthL xs + 1
  | _ => 0
def depthL : List Val → Nat
  | [] => 0
  | x :: xs => max x.depth (depthL xs)
end
def cEq (v w : Val) : Option Val := if v.data && w.data && decide (v.depth ≤ 30) && decide (w.depth ≤ 30) then some (.bl (veq v w)) else none
def cNe (v w : Val) : Option Val := if v.data && w.data && decide (v.depth ≤ 30) && decide (w.depth ≤ 30) then some (.bl (!veq v w)) else none
def cLt : Val → Val → Option Val
  | .int i, .int j => some (.bl (decide (i < j)))
  | _, _ => none
def cLe : Val → Val → Option Val
  | .int i, .int j => some (.bl (decide (i ≤ j)))
  | _, _ => none
def cGt : Val → Val → Option Val
  | .int i, .int j => some (.bl (decide (j < i)))
  | _, _ => none
def cGe : Val → Val → Option Val
  | .int i, .int j => some (.bl (decide (j ≤ i)))
  | _, _ => none
def Val.isNon : Val → Bool
  | .non => true
  | _ => false
def cIsN (v : Val) : Option Val := some (.bl v.isNon)
def cNotN (v : Val) : Option Val := some (.bl (!v.isNon))
def oIsN (v w : Val) : Option Val := match w with
  | .non => cIsN v
  | _ => none
def oNotN (v w : Val) : Option Val := match w with
  | .non => cNotN v
  | _ => none
/-- x is True -/
def cIsB : Val → Val → Option Val
  | .bl a, .bl b => some (.bl (decide (a = b)))
  | _, _ => none
def cNotB : Val → Val → Option Val
  | .bl a, .bl b => some (.bl (!decide (a = b)))
  | _, _ => none
/-- a op b op' c -/
def eChain (op op' : Val → Val → Option Val) (f g h : E) : E := fun env t => (f env t).bind fun v t1 => (g env t1).bind fun w t2 => match op v w with
  | some (.bl true) => (h env t2).bind fun u t3 => (match op' w u with
    | some r => .ok r t3
    | none => .bad)
  | some (.bl false) => .ok (.bl false) t2
  | _ => .bad
/-- lists alone -/
def oAddL : Val → Val → Option Val
  | .lst xs, .lst ys => if xs.length + ys.length ≤ lim then some (.lst (xs ++ ys)) else none
  | _, _ => none
/-- x in xs, xs a list or a tuple of numbers -/
def flat : Val → Bool
  | .non => true
  | .bl _ => true
  | .int _ => true
  | .str _ => true
  | _ => false
def cIn (x ys : Val) : Option Val := match items ys with
  | some xs => if flat x && xs.all flat then some (.bl (xs.any fun y => veq y x)) else none
  | none => none
def cNotIn (x ys : Val) : Option Val := match items ys with
  | some xs => if flat x && xs.all flat then some (.bl (!xs.any fun y => veq y x)) else none
  | none => none

/-! ### places and slices -/
def oIx : Val → Val → Option Val
  | .tup xs, .int i => (ixOf xs.length i).bind fun j => xs[j]?
  | .lst xs, .int i => (ixOf xs.length i).bind fun j => xs[j]?
  | _, _ => none
/-- a bound of a slice in a list of n items -/
def slIx (n d : Nat) : Option Int → Nat
  | none => d
  | some i => if i < 0 then (i + n).toNat else min i.toNat n
def cut (xs : List Val) (lo hi : Option Int) : List Val := (xs.drop (slIx xs.length 0 lo)).take (slIx xs.length xs.length hi - slIx xs.length 0 lo)
def oSl (lo hi : Option Int) : Val → Option Val
  | .tup xs => some (.tup (cut xs lo hi))
  | .lst xs => some (.lst (cut xs lo hi))
  | .scr ns => some (.lst (cut (ns.map Val.int) lo hi))
  | _ => none
/-- an optional part of a slice -/
abbrev P : Type := Env → M (Option Int)
def pNo : P := fun _ t => .ok none t
def pAt (f : E) : P := fun env t => (f env t).bind fun v t1 => match v with
  | .int i => .ok (some i) t1
  | _ => .bad
def eSl (f : E) (lo hi : P) : E := fun env t => (f env t).bind fun v t1 => (lo env t1).bind fun a t2 => (hi env t2).bind fun b t3 => match oSl a b v with
  | some z => .ok z t3
  | none => .bad
/-- xs[::-1] -/
def oRev : Val → Option Val
  | .tup xs => some (.tup xs.reverse)
  | .lst xs => some (.lst xs.reverse)
  | _ => none

/-! ### built-ins -/
def intsOf : List Val → Option (List Int)
  | [] => some []
  | .int i :: r => (intsOf r).map (i :: ·)
  | _ => none
def boolsOf : List Val → Option (List Bool)
  | [] => some []
  | .bl i :: r => (boolsOf r).map (i :: ·)
  | _ => none
def bLen : List Val → Option Val
  | [.tup xs] => some (.int xs.length)
  | [.lst xs] => some (.int xs.length)
  | _ => none
def bAbs : List Val → Option Val
  | [.int i] => some (.int (if i < 0 then -i else i))
  | _ => none
def bMax : List Val → Option Val
  | [.int i, .int j] => some (.int (if j > i then j else i))
  | [.lst xs] => (intsOf xs).bind fun ns => match ns with
    | [] => none
    | n :: r => some (.int (r.foldl max n))
  | [.tup xs] => (intsOf xs).bind fun ns => match ns with
    | [] => none
    | n :: r => some (.int (r.foldl max n))
  | _ => none
def bMin : List Val → Option Val
  | [.int i, .int j] => some (.int (if j < i then j else i))
  | [.lst xs] => (intsOf xs).bind fun ns => match ns with
    | [] => none
    | n :: r => some (.int (r.foldl min n))
  | [.tup xs] => (intsOf xs).bind fun ns => match ns with
    | [] => none
    | n :: r => some (.int (r.foldl min n))
  | _ => none
def bSum : List Val → Option Val
  | [.lst xs] => (intsOf xs).map fun ns => .int ns.sum
  | _ => none
def bAll : List Val → Option Val
  | [.lst xs] => (boolsOf xs).map fun bs => .bl (bs.all id)
  | _ => none
def bAny : List Val → Option Val
  | [.lst xs] => (boolsOf xs).map fun bs => .bl (bs.any id)
  | _ => none
def bInt : List Val → Option Val
  | [.int i] => some (.int i)
  | [.bl b] => some (.int (if b then 1 else 0))
  | _ => none
def bList : List Val → Option Val
  | [.tup xs] => some (.lst xs)
  | [.lst xs] => some (.lst xs)
  | _ => none
def bTuple : List Val → Option Val
  | [.tup xs] => some (.tup xs)
  | [.lst xs] => some (.tup xs)
  | _ => none
/-- sorted(set(..)) of numbers -/
def insU (i : Int) : List Int → List Int
  | [] => [i]
  | j :: r => if i < j then i :: j :: r else if i = j then j :: r else j :: insU i r
def sortU (l : List Int) : List Int := l.foldr insU []
def bSet : List Val → Option Val
  | [.lst xs] => (intsOf xs).map fun ns => .iset (sortU ns)
  | [.tup xs] => (intsOf xs).map fun ns => .iset (sortU ns)
  | _ => none
def insI (i : Int) : List Int → List Int
  | [] => [i]
  | j :: r => if i ≤ j then i :: j :: r else j :: insI i r
def sortI (l : List Int) : List Int := l.foldr insI []
def bSorted : List Val → Option Val
  | [.iset ns] => some (.lst (ns.map .int))
  | [.lst xs] => (intsOf xs).map fun ns => .lst ((sortI ns).map .int)
  | [.dct kvs] => some (.lst ((sortI (kvs.map (·.1))).map .int))
  | _ => none
/-- list(range(..)) -/
def eLRg1 (f : E) : E := fun env t => (f env t).bind fun v t1 => match v with
  | .int n => if -lim ≤ n ∧ n ≤ lim then .ok (.lst (rangeL 0 n)) t1 else .bad
  | _ => .bad
def eLRg2 (f g : E) : E := fun env t => (f env t).bind fun v t1 => (g env t1).bind fun w t2 => match v, w with
  | .int m, .int n => if -lim ≤ m ∧ m ≤ lim ∧ -lim ≤ n ∧ n ≤ lim then .ok (.lst (rangeL m n)) t2 else .bad
  | _, _ => .bad

/-! ### isinstance -/
inductive Ty where
  | int | bool | str | tuple | list
  deriving DecidableEq
def Val.isa : Val → Ty → Option Bool
  | .non, _ => some false
  | .bl _, .int => some true
  | .bl _, .bool => some true
  | .bl _, _ => some false
  | .int _, .int => some true
  | .int _, _ => some false
  | .str _, .str => some true
  | .str _, _ => some false
  | .tup _, .tuple => some true
  | .tup _, _ => some false
  | .lst _, .list => some true
  | .lst _, _ => some false
  | _, _ => none
def uIsa (ty : Ty) (v : Val) : Option Val := (v.isa ty).map .bl
def uIsa2 (t1 t2 : Ty) (v : Val) : Option Val := (v.isa t1).bind fun a => (v.isa t2).map fun b => .bl (a || b)

/-! ### tables by numbers, a name's own -/
def ownD (i : Nat) (env : Env) : Option (List (Int × Val)) := match env[i]? with
  | some (some (true, .dct kvs)) => some kvs
  | _ => none
def putD (i : Nat) (kvs : List (Int × Val)) (env : Env) : Env := env.set i (some (true, .dct kvs))
def dPut (k : Int) (v : Val) : List (Int × Val) → List (Int × Val)
  | [] => [(k, v)]
  | p :: r => if p.1 = k then (k, v) :: r else p :: dPut k v r
def dHas (k : Int) (kvs : List (Int × Val)) : Bool := kvs.any fun p => p.1 == k
end Nf

namespace Nf
open PySem PySem.Spec PyProof.Rows L2

/-- what stands where: the written part, the list of draws, the defs -/
structure Cz where
  K : PySem.W.Frag
  ta : Option Addr
  fa : Nat → Addr

abbrev Lk : Type := Addr → Prop

mutual
/-- a structural value and a value of the heap; L: the lists that stay as they are -/
def Rv (z : Cz) (L : Lk) (H : Hp) : Val → V → Prop
  | .non, x => x = .non
  | .bl b, x => x = .bl b
  | .int i, x => x = .int i
  | .str s, x => x = .str (Str.ofString s)
  | .tup vs, x => ∃ a ys, x = .ref a ∧ SqT z.K H a ys ∧ Rvs z L H vs ys
  | .lst vs, x => ∃ a ys, x = .ref a ∧ L a ∧ H a = some (.lst ys) ∧ Rvs z L H vs ys
  | .iset _, _ => False
  | .dct _, _ => False
  | .tin, x => ∃ a, z.ta = some a ∧ x = .ref a
  | .fn k, x => x = .ref (z.fa k)
  | .scr ns, x => ∃ a, x = .ref a ∧ ((∃ ob, H a = some (.frz ob (.lst (ns.map V.int)))) ∨ SqL z.K (fun _ => Option.none) a (ns.map V.int))
def Rvs (z : Cz) (L : Lk) (H : Hp) : List Val → List V → Prop
  | [], ys => ys = []
  | v :: vs, ys => ∃ y r, ys = y :: r ∧ Rv z L H v y ∧ Rvs z L H vs r
end

/-- what is locked, what never changes is kept -/
def Keep (L : Lk) (H : Hp) (L' : Lk) (H' : Hp) : Prop :=
  (∀ a, L a → L' a) ∧ ∀ a o, H a = some o → (L a ∨ (∃ xs, o = .tup xs) ∨ ∃ ob u, o = .frz ob u) → H' a = some o

theorem Keep.refl (L : Lk) (H : Hp) : Keep L H L H := ⟨fun _ h => h, fun _ _ h _ => h⟩
theorem Keep.trans {L H L' H' L'' H''} (a : Keep L H L' H') (b : Keep L' H' L'' H'') : Keep L H L'' H'' :=
  ⟨fun x h => b.1 x (a.1 x h), fun x o h c => b.2 x o (a.2 x o h c) (by
    rcases c with c | c | c
    · exact .inl (a.1 x c)
    · exact .inr (.inl c)
    · exact .inr (.inr c))⟩

theorem Keep.rdT {L H L' H'} (k : Keep L H L' H') {a : Addr} {ys : List V} (h : Rd H a (.tup ys)) : Rd H' a (.tup ys) := by
  rcases h with h | ⟨o, h⟩
  · exact .inl (k.2 a _ h (.inr (.inl ⟨_, rfl⟩)))
  · exact .inr ⟨o, k.2 a _ h (.inr (.inr ⟨_, _, rfl⟩))⟩
theorem Keep.sqT {z : Cz} {L H L' H'} (k : Keep L H L' H') {a : Addr} {ys : List V} (h : SqT z.K H a ys) : SqT z.K H' a ys := by
  rcases h with h | h
  · exact .inl (k.rdT h)
  · exact .inr h
mutual
theorem Rv.keep {z : Cz} {L H L' H'} (k : Keep L H L' H') : ∀ (v : Val) {x : V}, Rv z L H v x → Rv z L' H' v x
  | .non, _, h => by simpa [Rv] using h
  | .bl b, _, h => by simpa [Rv] using h
  | .int i, _, h => by simpa [Rv] using h
  | .str s, _, h => by simpa [Rv] using h
  | .tup vs, _, h => by
    simp only [Rv] at h ⊢
    obtain ⟨a, ys, e, h1, h2⟩ := h
    exact ⟨a, ys, e, k.sqT h1, Rvs.keep k vs h2⟩
  | .lst vs, _, h => by
    simp only [Rv] at h ⊢
    obtain ⟨a, ys, e, l, h1, h2⟩ := h
    exact ⟨a, ys, e, k.1 a l, k.2 a _ h1 (.inl l), Rvs.keep k vs h2⟩
  | .iset _, _, h => by simp only [Rv] at h
  | .dct _, _, h => by simp only [Rv] at h
  | .tin, _, h => by simpa [Rv] using h
  | .fn _, _, h => by simpa [Rv] using h
  | .scr ns, _, h => by
    simp only [Rv] at h ⊢
    obtain ⟨a, e, h⟩ := h
    refine ⟨a, e, ?_⟩
    rcases h with ⟨ob, h⟩ | h
    · exact .inl ⟨ob, k.2 a _ h (.inr (.inr ⟨_, _, rfl⟩))⟩
    · exact .inr h
theorem Rvs.keep {z : Cz} {L H L' H'} (k : Keep L H L' H') : ∀ (vs : List Val) {ys : List V}, Rvs z L H vs ys → Rvs z L' H' vs ys
  | [], _, h => by simpa [Rvs] using h
  | v :: vs, _, h => by
    simp only [Rvs] at h ⊢
    obtain ⟨y, r, e, h1, h2⟩ := h
    exact ⟨y, r, e, Rv.keep k v h1, Rvs.keep k vs h2⟩
end

section
variable {z : Cz} {L : Lk} {H : Hp}
theorem Rvs.nil : Rvs z L H [] [] := by simp [Rvs]
theorem Rvs.cons {v : Val} {vs : List Val} {y : V} {ys : List V} (h : Rv z L H v y) (t : Rvs z L H vs ys) : Rvs z L H (v :: vs) (y :: ys) := by
  simp only [Rvs]; exact ⟨y, ys, rfl, h, t⟩
theorem Rvs.len : ∀ {vs : List Val} {ys : List V}, Rvs z L H vs ys → ys.length = vs.length
  | [], _, h => by simp only [Rvs] at h; rw [h]; rfl
  | v :: vs, _, h => by
    simp only [Rvs] at h
    obtain ⟨y, r, rfl, _, h2⟩ := h
    simp [Rvs.len h2]
theorem Rvs.get : ∀ {vs : List Val} {ys : List V} {i : Nat} {v : Val}, Rvs z L H vs ys → vs[i]? = some v → ∃ y, ys[i]? = some y ∧ Rv z L H v y
  | [], _, _, _, _, e => by simp at e
  | w :: vs, _, i, v, h, e => by
    simp only [Rvs] at h
    obtain ⟨y, r, rfl, h1, h2⟩ := h
    cases i with
    | zero => simp at e; subst e; exact ⟨y, rfl, h1⟩
    | succ i =>
      obtain ⟨y', e1, h3⟩ := Rvs.get (i := i) h2 (by simpa using e)
      exact ⟨y', by simpa using e1, h3⟩
theorem Rvs.append : ∀ {vs ws : List Val} {ys us : List V}, Rvs z L H vs ys → Rvs z L H ws us → Rvs z L H (vs ++ ws) (ys ++ us)
  | [], _, _, _, h, g => by simp only [Rvs] at h; subst h; exact g
  | v :: vs, ws, _, us, h, g => by
    simp only [Rvs] at h
    obtain ⟨y, r, rfl, h1, h2⟩ := h
    exact Rvs.cons h1 (Rvs.append h2 g)
theorem Rvs.set : ∀ {vs : List Val} {ys : List V} {v : Val} {y : V} (i : Nat), Rv z L H v y → Rvs z L H vs ys → Rvs z L H (vs.set i v) (ys.set i y)
  | [], _, _, _, _, _, h => by simp only [Rvs] at h; subst h; exact Rvs.nil
  | w :: vs, _, v, y, i, hv, h => by
    simp only [Rvs] at h
    obtain ⟨y', r, rfl, h1, h2⟩ := h
    cases i with
    | zero => exact Rvs.cons hv h2
    | succ i => exact Rvs.cons h1 (Rvs.set i hv h2)
theorem Rvs.drop : ∀ {vs : List Val} {ys : List V} (n : Nat), Rvs z L H vs ys → Rvs z L H (vs.drop n) (ys.drop n)
  | _, _, 0, h => h
  | [], _, n + 1, h => by simp only [Rvs] at h; subst h; exact Rvs.nil
  | v :: vs, _, n + 1, h => by
    simp only [Rvs] at h
    obtain ⟨y, r, rfl, h1, h2⟩ := h
    exact Rvs.drop n h2
theorem Rvs.take : ∀ {vs : List Val} {ys : List V} (n : Nat), Rvs z L H vs ys → Rvs z L H (vs.take n) (ys.take n)
  | _, _, 0, _ => by simp [Rvs]
  | [], _, n + 1, h => by simp only [Rvs] at h; subst h; exact Rvs.nil
  | v :: vs, _, n + 1, h => by
    simp only [Rvs] at h
    obtain ⟨y, r, rfl, h1, h2⟩ := h
    exact Rvs.cons h1 (Rvs.take n h2)
theorem Rvs.reverse : ∀ {vs : List Val} {ys : List V}, Rvs z L H vs ys → Rvs z L H vs.reverse ys.reverse
  | [], _, h => by simp only [Rvs] at h; subst h; exact Rvs.nil
  | v :: vs, _, h => by
    simp only [Rvs] at h
    obtain ⟨y, r, rfl, h1, h2⟩ := h
    rw [List.reverse_cons, List.reverse_cons]
    exact Rvs.append (Rvs.reverse h2) (Rvs.cons h1 Rvs.nil)
theorem Rvs.flat : ∀ {vs : List Val} {ys : List V} (n : Nat), Rvs z L H vs ys → Rvs z L H (List.replicate n vs).flatten (List.replicate n ys).flatten
  | _, _, 0, _ => by simp [Rvs]
  | vs, ys, n + 1, h => by
    rw [List.replicate_succ, List.replicate_succ, List.flatten_cons, List.flatten_cons]
    exact Rvs.append h (Rvs.flat n h)
theorem Rvs.intsOf : ∀ {vs : List Val} {ys : List V} {ns : List Int}, Rvs z L H vs ys → Nf.intsOf vs = some ns → ys = ns.map V.int
  | [], _, ns, h, e => by
    simp only [Rvs] at h; subst h
    simp only [Nf.intsOf, Option.some.injEq] at e; subst e; rfl
  | .int i :: vs, _, ns, h, e => by
    simp only [Rvs, Rv] at h
    obtain ⟨y, r, rfl, rfl, h2⟩ := h
    simp only [Nf.intsOf, Option.map_eq_some_iff] at e
    obtain ⟨ms, e1, rfl⟩ := e
    rw [Rvs.intsOf h2 e1]; rfl
  | .non :: _, _, _, _, e => by simp [Nf.intsOf] at e
  | .bl _ :: _, _, _, _, e => by simp [Nf.intsOf] at e
  | .str _ :: _, _, _, _, e => by simp [Nf.intsOf] at e
  | .tup _ :: _, _, _, _, e => by simp [Nf.intsOf] at e
  | .lst _ :: _, _, _, _, e => by simp [Nf.intsOf] at e
  | .iset _ :: _, _, _, _, e => by simp [Nf.intsOf] at e
  | .dct _ :: _, _, _, _, e => by simp [Nf.intsOf] at e
  | .tin :: _, _, _, _, e => by simp [Nf.intsOf] at e
  | .fn _ :: _, _, _, _, e => by simp [Nf.intsOf] at e
  | .scr _ :: _, _, _, _, e => by simp [Nf.intsOf] at e
theorem Rvs.boolsOf : ∀ {vs : List Val} {ys : List V} {ns : List Bool}, Rvs z L H vs ys → Nf.boolsOf vs = some ns → ys = ns.map V.bl
  | [], _, ns, h, e => by
    simp only [Rvs] at h; subst h
    simp only [Nf.boolsOf, Option.some.injEq] at e; subst e; rfl
  | .bl i :: vs, _, ns, h, e => by
    simp only [Rvs, Rv] at h
    obtain ⟨y, r, rfl, rfl, h2⟩ := h
    simp only [Nf.boolsOf, Option.map_eq_some_iff] at e
    obtain ⟨ms, e1, rfl⟩ := e
    rw [Rvs.boolsOf h2 e1]; rfl
  | .non :: _, _, _, _, e => by simp [Nf.boolsOf] at e
  | .int _ :: _, _, _, _, e => by simp [Nf.boolsOf] at e
  | .str _ :: _, _, _, _, e => by simp [Nf.boolsOf] at e
  | .tup _ :: _, _, _, _, e => by simp [Nf.boolsOf] at e
  | .lst _ :: _, _, _, _, e => by simp [Nf.boolsOf] at e
  | .iset _ :: _, _, _, _, e => by simp [Nf.boolsOf] at e
  | .dct _ :: _, _, _, _, e => by simp [Nf.boolsOf] at e
  | .tin :: _, _, _, _, e => by simp [Nf.boolsOf] at e
  | .fn _ :: _, _, _, _, e => by simp [Nf.boolsOf] at e
  | .scr _ :: _, _, _, _, e => by simp [Nf.boolsOf] at e
theorem Rvs.ofInts : ∀ (ns : List Int), Rvs z L H (ns.map Val.int) (ns.map V.int)
  | [] => Rvs.nil
  | n :: ns => Rvs.cons (by simp [Rv]) (Rvs.ofInts ns)
end

/-! ### the state behind a step -/
/-- the locked lists are there; the list of draws holds t -/
def Ok (z : Cz) (L : Lk) (H : Hp) (t : Tin) : Prop :=
  (∀ a, L a → ∃ o, H a = some o) ∧ ∀ a, z.ta = some a → ¬ L a ∧ H a = some (.lst [.int t.a, .int t.b, .int t.c])
/-- all but the list of draws stays; what is newly locked is new -/
structure Go (z : Cz) (L : Lk) (H : Hp) (t : Tin) (L' : Lk) (H' : Hp) (t' : Tin) : Prop where
  pre : Ok z L H t
  ok : Ok z L' H' t'
  up : ∀ a, L a → L' a
  new : ∀ a, L' a → L a ∨ H a = none
  stay : ∀ a o, H a = some o → z.ta ≠ some a → H' a = some o

section
variable {z : Cz} {L L' L'' : Lk} {H H' H'' : Hp} {t t' t'' : Tin}
theorem Go.refl (h : Ok z L H t) : Go z L H t L H t := ⟨h, h, fun _ h => h, fun _ h => .inl h, fun _ _ h _ => h⟩
theorem Go.there (g : Go z L H t L' H' t') {a : Addr} {o : HO} (h : H a = some o) : ∃ o', H' a = some o' := by
  by_cases e : z.ta = some a
  · exact ⟨_, (g.ok.2 a e).2⟩
  · exact ⟨o, g.stay a o h e⟩
theorem Go.free (g : Go z L H t L' H' t') {a : Addr} (h : H' a = none) : H a = none := by
  cases e : H a with
  | none => rfl
  | some o =>
    obtain ⟨o', e'⟩ := g.there e
    rw [h] at e'; cases e'
theorem Go.trans (a : Go z L H t L' H' t') (b : Go z L' H' t' L'' H'' t'') : Go z L H t L'' H'' t'' :=
  ⟨a.pre, b.ok, fun x h => b.up x (a.up x h), fun x h => by
    rcases b.new x h with h | h
    · exact a.new x h
    · exact .inr (a.free h), fun x o h e => b.stay x o (a.stay x o h e) e⟩
theorem Go.keep (g : Go z L H t L' H' t') : Keep L H L' H' := by
  refine ⟨g.up, fun a o h c => g.stay a o h fun e => ?_⟩
  have q := g.pre.2 a e
  rcases c with c | ⟨xs, c⟩ | ⟨ob, u, c⟩
  · exact q.1 c
  · rw [q.2] at h; cases h; cases c
  · rw [q.2] at h; cases h; cases c
/-- a new object -/
theorem Go.upd (h : Ok z L H t) {p : Addr} {o : HO} (hp : H p = none) : Go z L H t L (L2.upd H p o) t := by
  have ne : ∀ a u, H a = some u → a ≠ p := fun a u e q => by subst q; rw [hp] at e; cases e
  have st : ∀ a u, H a = some u → L2.upd H p o a = some u := fun a u e => by rw [upd_ne (ne a u e)]; exact e
  refine ⟨h, ⟨fun a l => ?_, fun a e => ?_⟩, fun _ h => h, fun _ h => .inl h, fun a u e _ => st a u e⟩
  · obtain ⟨u, e⟩ := h.1 a l
    exact ⟨u, st a u e⟩
  · exact ⟨(h.2 a e).1, st a _ (h.2 a e).2⟩
/-- a new list, locked at once -/
def lockAt (L : Lk) (p : Addr) : Lk := fun a => L a ∨ a = p
theorem Go.lock (g : Go z L H t L' H' t') {p : Addr} {o : HO} (hp : H p = Option.none) (hq : H' p = some o) (ht : z.ta ≠ some p) : Go z L H t (lockAt L' p) H' t' := by
  refine ⟨g.pre, ⟨fun a l => ?_, fun a e => ⟨fun l => ?_, (g.ok.2 a e).2⟩⟩, fun a l => .inl (g.up a l), fun a l => ?_, g.stay⟩
  · rcases l with l | l
    · exact g.ok.1 a l
    · rw [l]; exact ⟨o, hq⟩
  · rcases l with l | l
    · exact (g.ok.2 a e).1 l
    · rw [l] at e; exact ht e
  · rcases l with l | l
    · exact g.new a l
    · rw [l]; exact .inr hp
theorem Keep.lock {p : Addr} : Keep L H (lockAt L p) H := ⟨fun _ h => .inl h, fun _ _ h _ => h⟩
theorem Ok.ta_ne (h : Ok z L H t) {p : Addr} (hp : H p = Option.none) : z.ta ≠ some p := fun e => by
  have := (h.2 p e).2
  rw [hp] at this; cases this
end

/-! ### a frame -/
/-- a list of the frame's own -/
def OwnV (z : Cz) (L : Lk) (H : Hp) (v : Val) (a : Addr) : Prop :=
  match v with
  | .lst xs => ∃ ys, H a = some (.lst ys) ∧ Rvs z L H xs ys
  | _ => False
structure RelS (z : Cz) (L0 : Lk) (H0 : Hp) (t0 : Tin) (L : Lk) (env : Env) (t : Tin) (σ : List (Option V)) (H : Hp) : Prop where
  base : (∀ a, L0 a → L a) ∧ (∀ a, L a → L0 a ∨ H0 a = none) ∧ (∀ a o, H0 a = some o → z.ta ≠ some a → H a = some o) ∧ Ok z L0 H0 t0
  ok : Ok z L H t
  len : env.length = σ.length
  val : ∀ (i : Nat) (v : Val), env[i]? = some (some (false, v)) → ∃ x, σ[i]? = some (some x) ∧ Rv z L H v x
  own : ∃ oa : Nat → Addr, (∀ (i : Nat) (v : Val), env[i]? = some (some (true, v)) → σ[i]? = some (some (.ref (oa i))) ∧ ¬ L (oa i) ∧ H0 (oa i) = none ∧ z.ta ≠ some (oa i) ∧ OwnV z L H v (oa i)) ∧
    ∀ (i j : Nat) (v w : Val), env[i]? = some (some (true, v)) → env[j]? = some (some (true, w)) → i ≠ j → oa i ≠ oa j

section
variable {z : Cz} {L0 L L' : Lk} {H0 H H' : Hp} {t0 t t' : Tin} {env : Env} {σ : List (Option V)}
theorem OwnV.keep {v : Val} {a : Addr} (k : Keep L H L' H') (e : ∀ o, H a = some o → H' a = some o) (h : OwnV z L H v a) : OwnV z L' H' v a := by
  cases v <;> try exact h
  obtain ⟨ys, h1, h2⟩ := h
  exact ⟨ys, e _ h1, Rvs.keep k _ h2⟩
theorem OwnV.there {v : Val} {a : Addr} (h : OwnV z L H v a) : ∃ o, H a = some o := by
  cases v <;> first | exact h.elim | skip
  obtain ⟨ys, h1, _⟩ := h
  exact ⟨_, h1⟩
theorem RelS.base' (r : RelS z L0 H0 t0 L env t σ H) : Go z L0 H0 t0 L H t := ⟨r.base.2.2.2, r.ok, r.base.1, r.base.2.1, r.base.2.2.1⟩
theorem RelS.go (r : RelS z L0 H0 t0 L env t σ H) (g : Go z L H t L' H' t') : RelS z L0 H0 t0 L' env t' σ H' where
  base := by
    have q := r.base'.trans g
    exact ⟨q.up, q.new, q.stay, q.pre⟩
  ok := g.ok
  len := r.len
  val := fun i v e => by
    obtain ⟨x, e1, h1⟩ := r.val i v e
    exact ⟨x, e1, Rv.keep g.keep v h1⟩
  own := by
    obtain ⟨oa, h1, h2⟩ := r.own
    refine ⟨oa, fun i v e => ?_, h2⟩
    obtain ⟨e1, n1, n2, n3, o⟩ := h1 i v e
    refine ⟨e1, fun l => ?_, n2, n3, o.keep g.keep fun u eu => g.stay _ u eu n3⟩
    rcases g.new _ l with l | l
    · exact n1 l
    · obtain ⟨u, eu⟩ := o.there
      rw [l] at eu; cases eu
end

/-! ### readings -/
/-- how a value is handed on: R L H L' H' v x -/
abbrev Rr : Type := Lk → Hp → Lk → Hp → Val → V → Prop
/-- for good -/
def RE (z : Cz) : Rr := fun _ _ L' H' v x => Rv z L' H' v x
/-- for a look: its list may change later -/
def RO (z : Cz) : Rr := fun _ _ L' H' v x => Rv z L' H' v x ∨ ∃ vs a ys, v = .lst vs ∧ x = .ref a ∧ z.ta ≠ some a ∧ H' a = some (.lst ys) ∧ Rvs z L' H' vs ys
/-- a new list -/
def RN (z : Cz) : Rr := fun _ H L' H' v x => ∃ vs a ys, v = .lst vs ∧ x = .ref a ∧ H a = none ∧ ¬ L' a ∧ H' a = some (.lst ys) ∧ Rvs z L' H' vs ys
/-- a relation that may start earlier -/
structure RBack (z : Cz) (R : Rr) : Prop where
  go : ∀ {L H t L1 H1 t1 L' H' v x}, Go z L H t L1 H1 t1 → R L1 H1 L' H' v x → R L H L' H' v x
theorem RE.back {z : Cz} : RBack z (RE z) := ⟨fun _ h => h⟩
theorem RO.back {z : Cz} : RBack z (RO z) := ⟨fun _ h => h⟩
theorem RN.back {z : Cz} : RBack z (RN z) := ⟨fun g ⟨vs, a, ys, e1, e2, h, r⟩ => ⟨vs, a, ys, e1, e2, g.free h, r⟩⟩

abbrev Wx : Type := Nat → Hp → Prop
def rd (z : Cz) (W : Wx) (R : Rr) (f : E) : TE := fun σ H Q => ∃ L0 H0 t0 L env t, RelS z L0 H0 t0 L env t σ H ∧ match f env t with
  | .ok v t' => ∀ x H' L', Go z L H t L' H' t' → R L H L' H' v x → Q x H'
  | .exc k t' => ∀ H' L', Go z L H t L' H' t' → W k H'
  | .bad => False
def rdT (z : Cz) (W : Wx) (c : T) : TT := fun σ H Q => ∃ L0 H0 t0 L env t, RelS z L0 H0 t0 L env t σ H ∧ match c env t with
  | .ok b t' => ∀ H' L', Go z L H t L' H' t' → Q b H'
  | .exc k t' => ∀ H' L', Go z L H t L' H' t' → W k H'
  | .bad => False
/-- several values -/
def Rs (R : Rr) (L : Lk) (H : Hp) (L' : Lk) (H' : Hp) : List Val → List V → Prop
  | [], ys => ys = []
  | v :: vs, ys => ∃ y r, ys = y :: r ∧ R L H L' H' v y ∧ Rs R L H L' H' vs r
def rdA (z : Cz) (W : Wx) (R : Rr) (a : A) : TA := fun σ H Q => ∃ L0 H0 t0 L env t, RelS z L0 H0 t0 L env t σ H ∧ match a env t with
  | .ok vs t' => ∀ xs H' L', Go z L H t L' H' t' → Rs R L H L' H' vs xs → Q xs H'
  | .exc k t' => ∀ H' L', Go z L H t L' H' t' → W k H'
  | .bad => False
end Nf
namespace L2
theorem PE.imp {X : Cx} {e : PySem.Expr} {t t' : TE} (h : PE X e t) (i : ∀ σ H Q, t' σ H Q → t σ H Q) : PE X e t' := ⟨fun pins s σ H Q I q => h.run pins s σ H Q I (i σ H Q q)⟩
theorem PT.imp {X : Cx} {e : PySem.Expr} {t t' : TT} (h : PT X e t) (i : ∀ σ H Q, t' σ H Q → t σ H Q) : PT X e t' := ⟨fun pins s σ H Q I q => h.run pins s σ H Q I (i σ H Q q)⟩
theorem PW.imp {X : Cx} {e : PySem.Expr} {t t' : TT} (h : PW X e t) (i : ∀ σ H Q, t' σ H Q → t σ H Q) : PW X e t' := ⟨fun w pins s σ H Q I q => h.run w pins s σ H Q I (i σ H Q q)⟩
theorem PA.imp {X : Cx} {e : List PySem.Expr} {t t' : TA} (h : PA X e t) (i : ∀ σ H Q, t' σ H Q → t σ H Q) : PA X e t' := ⟨fun p pins s σ H Q I q => h.run p pins s σ H Q I (i σ H Q q)⟩
theorem PS.imp {X : Cx} {e : PySem.Stmt} {t t' : TS} (h : PS X e t) (i : ∀ D σ H, t' D σ H → t D σ H) : PS X e t' := ⟨fun pins s σ H D I q => h.run pins s σ H D I (i D σ H q)⟩
theorem PSs.imp {X : Cx} {e : List PySem.Stmt} {t t' : TS} (h : PSs X e t) (i : ∀ D σ H, t' D σ H → t D σ H) : PSs X e t' := ⟨fun pins s σ H D I q => h.run pins s σ H D I (i D σ H q)⟩
theorem PI.imp {X : Cx} {tg e : PySem.Expr} {t t' : TI} (h : PI X tg e t) (i : ∀ σ H Q, t' σ H Q → t σ H Q) : PI X tg e t' := ⟨fun pins s σ H Q I q => h.run pins s σ H Q I (i σ H Q q)⟩
theorem PG.imp {X : Cx} {tg : PySem.Expr} {t t' : TG} (h : PG X tg t) (i : ∀ v σ H Q, t' v σ H Q → t v σ H Q) : PG X tg t' := ⟨fun pins s σ H v u Q I r q => h.run pins s σ H v u Q I r (i v σ H Q q)⟩
end L2

namespace Nf
open PySem PySem.Spec PyProof.Rows L2

/-- the frame suits z -/
class Fit (z : Cz) (X : Cx) : Prop where
  K : X.K = z.K
  calm : X.calm = true
  hu : X.A.units + 70 < cLine
instance Fit.blk {z : Cz} {X : Cx} [F : Fit z X] {s : Shared} {H : Hp} {scope : Scope} {cenv : PySem.Env} {fp : List Addr} : Fit z (X.blk s H scope cenv fp) := ⟨F.K, F.calm, F.hu⟩

section
variable {z : Cz} {W : Wx} {X : Cx} {R : Rr}

/-! ### coercions -/
theorem RN.lock {L L' : Lk} {H H' : Hp} {t t' : Tin} {v : Val} {x : V} (g : Go z L H t L' H' t') (r : RN z L H L' H' v x) :
    ∃ L'', Go z L H t L'' H' t' ∧ Rv z L'' H' v x := by
  obtain ⟨vs, a, ys, rfl, rfl, ha, _, ha', r⟩ := r
  refine ⟨lockAt L' a, g.lock ha ha' (g.pre.ta_ne ha), ?_⟩
  simp only [Rv]
  exact ⟨a, ys, rfl, .inr rfl, ha', Rvs.keep Keep.lock vs r⟩
theorem rdEN {f : E} {σ H Q} (h : rd z W (RE z) f σ H Q) : rd z W (RN z) f σ H Q := by
  obtain ⟨L0, H0, t0, L, env, t, r, h⟩ := h
  refine ⟨L0, H0, t0, L, env, t, r, ?_⟩
  cases e : f env t with
  | bad => rw [e] at h; exact h
  | exc k t' => rw [e] at h; exact h
  | ok v t' =>
    rw [e] at h
    intro x H' L' g rn
    obtain ⟨L'', g', r'⟩ := rn.lock g
    exact h x H' L'' g' r'
theorem rdOE {f : E} {σ H Q} (h : rd z W (RO z) f σ H Q) : rd z W (RE z) f σ H Q := by
  obtain ⟨L0, H0, t0, L, env, t, r, h⟩ := h
  refine ⟨L0, H0, t0, L, env, t, r, ?_⟩
  cases e : f env t with
  | bad => rw [e] at h; exact h
  | exc k t' => rw [e] at h; exact h
  | ok v t' =>
    rw [e] at h
    exact fun x H' L' g rn => h x H' L' g (.inl rn)
variable {e : Expr} {f : E}
/-- new is for good -/
theorem xEN (h : PE X e (rd z W (RN z) f)) : PE X e (rd z W (RE z) f) := h.imp fun _ _ _ => rdEN
/-- for good is for a look -/
theorem xOE (h : PE X e (rd z W (RE z) f)) : PE X e (rd z W (RO z) f) := h.imp fun _ _ _ => rdOE

/-! ### names, constants -/
theorem rd_intro {f : E} {σ : L2.St} {H : Hp} {Q : VK} {te : TE} (h : rd z W R f σ H Q)
    (k : ∀ L0 H0 t0 L env t, RelS z L0 H0 t0 L env t σ H → (match f env t with
      | .ok v t' => ∀ x H' L', Go z L H t L' H' t' → R L H L' H' v x → Q x H'
      | .exc k t' => ∀ H' L', Go z L H t L' H' t' → W k H'
      | .bad => False) → te σ H Q) : te σ H Q := by
  obtain ⟨L0, H0, t0, L, env, t, r, h⟩ := h
  exact k L0 H0 t0 L env t r h

theorem xv (i : Nat) {x : Str} {pos : Pos} (hN : X.N[i]? = some x := by rfl) (hv : Vis X.env.scope x := by first | exact Or.inl rfl | exact Or.inr (Or.inl rfl) | exact Or.inr (Or.inr rfl)) (hd : (x == ("__debug__" : Str)) = false := by decide)
    (hcd : (x == ("__classdict__" : Str)) = false := by decide) : PE X (.Name x pos) (rd z W (RE z) (eVar i)) := by
  refine (pe_var hN hv hd hcd).imp fun σ H Q h => ?_
  obtain ⟨L0, H0, t0, L, env, t, r, h⟩ := h
  simp only [eVar] at h
  cases e : env[i]? with
  | none => rw [e] at h; exact h.elim
  | some o =>
    rw [e] at h
    match o, e, h with
    | none, _, h => exact h.elim
    | some (true, v), _, h => exact h.elim
    | some (false, v), e, h =>
      obtain ⟨x, hx, hr⟩ := r.val i v e
      exact ⟨x, hx, h x H L (.refl r.ok) hr⟩
theorem xo (i : Nat) {x : Str} {pos : Pos} (hN : X.N[i]? = some x := by rfl) (hv : Vis X.env.scope x := by first | exact Or.inl rfl | exact Or.inr (Or.inl rfl) | exact Or.inr (Or.inr rfl)) (hd : (x == ("__debug__" : Str)) = false := by decide)
    (hcd : (x == ("__classdict__" : Str)) = false := by decide) : PE X (.Name x pos) (rd z W (RO z) (eOwn i)) := by
  refine (pe_var hN hv hd hcd).imp fun σ H Q h => ?_
  obtain ⟨L0, H0, t0, L, env, t, r, h⟩ := h
  simp only [eOwn] at h
  cases e : env[i]? with
  | none => rw [e] at h; exact h.elim
  | some o =>
    rw [e] at h
    match o, e, h with
    | none, _, h => exact h.elim
    | some (true, v), e, h =>
      obtain ⟨oa, ho, _⟩ := r.own
      obtain ⟨hx, nl, h0, hta, ov⟩ := ho i v e
      refine ⟨_, hx, h _ H L (.refl r.ok) ?_⟩
      cases v <;> first | exact ov.elim | skip
      obtain ⟨ys, h1, h2⟩ := ov
      exact .inr ⟨_, _, ys, rfl, rfl, hta, h1, h2⟩
    | some (false, v), e, h =>
      obtain ⟨x, hx, hr⟩ := r.val i v e
      exact ⟨x, hx, h x H L (.refl r.ok) (.inl hr)⟩
/-- a constant by its rule -/
theorem xc {v : Val} {x : V} (h : PE X e (tC x)) (r : ∀ L H, Rv z L H v x) : PE X e (rd z W (RE z) (eC v)) := by
  refine h.imp fun σ H Q h => ?_
  obtain ⟨L0, H0, t0, L, env, t, r0, h⟩ := h
  exact h x H L (.refl r0.ok) (r L H)
theorem xi (i : Int) {j pos} : PE X (.Constant (.int i) j pos) (rd z W (RE z) (eC (.int i))) := xc pe_int fun _ _ => by simp [Rv]
theorem xb (b : Bool) {j pos} : PE X (.Constant (.bool b) j pos) (rd z W (RE z) (eC (.bl b))) := xc pe_bl fun _ _ => by simp [Rv]
theorem xn {j pos} : PE X (.Constant .none j pos) (rd z W (RE z) (eC .non)) := xc pe_non fun _ _ => by simp [Rv]
theorem xs (s : String) {j pos} : PE X (.Constant (.str (Str.ofString s)) j pos) (rd z W (RE z) (eC (.str s))) := xc pe_str fun _ _ => by simp [Rv]
/-- a module's constant -/
theorem xg {x : Str} {pos : Pos} {v : Val} {y : V} {u : Value} (hg : Gl X x) (hm : X.mg x = some u) (r : L2.RelV y u) (h : ∀ L H, Rv z L H v y) (hd : (x == ("__debug__" : Str)) = false := by decide) : PE X (.Name x pos) (rd z W (RE z) (eC v)) :=
  xc (pe_glob hg hm r hd) h

/-! ### operators -/
/-- a two-place operation on values -/
def rdOp (z : Cz) (R : Rr) (op : Val → Val → Option Val) : R2 := fun x y H Q => ∃ L v w t r, Ok z L H t ∧ RO z L H L H v x ∧ RO z L H L H w y ∧ op v w = some r ∧ ∀ u H' L', Go z L H t L' H' t → R L H L' H' r u → Q u H'
def rdU (z : Cz) (R : Rr) (op : Val → Option Val) : V → Hp → VK → Prop := fun x H Q => ∃ L v t r, Ok z L H t ∧ RO z L H L H v x ∧ op v = some r ∧ ∀ u H' L', Go z L H t L' H' t → R L H L' H' r u → Q u H'
theorem RO.go {L1 H1 L H L' H' : _} {v : Val} {x : V} {t t' : Tin} (g : Go z L H t L' H' t') (h : RO z L1 H1 L H v x) : RO z L1 H1 L' H' v x := by
  rcases h with h | ⟨vs, a, ys, e1, e2, n, h1, h2⟩
  · exact .inl (Rv.keep g.keep v h)
  · exact .inr ⟨vs, a, ys, e1, e2, n, g.stay a _ h1 n, Rvs.keep g.keep vs h2⟩
theorem rd_op {o : Val → Val → Option Val} {f g : E} (hR : RBack z R) {σ H Q} (h : rd z W R (eOp o f g) σ H Q) : tOp (rdOp z R o) (rd z W (RO z) f) (rd z W (RO z) g) σ H Q := by
  obtain ⟨L0, H0, t0, L, env, t, r, h⟩ := h
  refine ⟨L0, H0, t0, L, env, t, r, ?_⟩
  simp only [eOp] at h
  cases e : f env t with
  | bad => rw [e] at h; exact h
  | exc k t' => rw [e] at h; exact h
  | ok v t1 =>
    rw [e] at h
    intro x H1 L1 g1 rx
    refine ⟨L0, H0, t0, L1, env, t1, r.go g1, ?_⟩
    simp only [Res.bind_ok] at h
    cases e2 : g env t1 with
    | bad => rw [e2] at h; exact h
    | exc k t' => rw [e2] at h; exact fun H' L' g2 => h H' L' (g1.trans g2)
    | ok w t2 =>
      rw [e2] at h
      intro y H2 L2 g2 ry
      simp only [Res.bind_ok] at h
      cases e3 : o v w with
      | none => rw [e3] at h; exact h.elim
      | some q =>
        rw [e3] at h
        exact ⟨L2, v, w, t2, q, g2.ok, RO.go g2 rx, ry, e3, fun u H' L' g3 ru => h u H' L' (g1.trans (g2.trans g3)) (hR.go (g1.trans g2) ru)⟩
variable {a b : Expr} {f g : E} {pos : Pos} {o : Val → Val → Option Val}
theorem xop {op : Operator} (hR : RBack z R) (ho : OpR X (binaryOp op) (rdOp z R o)) (ha : PE X a (rd z W (RO z) f)) (hb : PE X b (rd z W (RO z) g)) : PE X (.BinOp a op b pos) (rd z W R (eOp o f g)) :=
  (pe_op ho ha hb).imp fun _ _ _ => rd_op hR
theorem xopE {op : Operator} (ho : OpR X (binaryOp op) (rdOp z (RE z) o)) (ha : PE X a (rd z W (RO z) f)) (hb : PE X b (rd z W (RO z) g)) : PE X (.BinOp a op b pos) (rd z W (RE z) (eOp o f g)) := xop RE.back ho ha hb
theorem xopN {op : Operator} (ho : OpR X (binaryOp op) (rdOp z (RN z) o)) (ha : PE X a (rd z W (RO z) f)) (hb : PE X b (rd z W (RO z) g)) : PE X (.BinOp a op b pos) (rd z W (RN z) (eOp o f g)) := xop RN.back ho ha hb
theorem xcmp {op : CmpOp} (ho : OpR X (compareOp op) (rdOp z (RE z) o)) (ha : PE X a (rd z W (RO z) f)) (hb : PE X b (rd z W (RO z) g)) (hm : behindInMarks op b = false := by first | exact nomark _ | rfl) : PE X (.Compare a [op] [b] pos) (rd z W (RE z) (eOp o f g)) :=
  (pe_cmpR ho ha hb hm).imp fun _ _ _ => rd_op RE.back
theorem rd_un {o : Val → Option Val} {f : E} (hR : RBack z R) {σ H Q} (h : rd z W R (eUn o f) σ H Q) : tUn (rdU z R o) (rd z W (RO z) f) σ H Q := by
  obtain ⟨L0, H0, t0, L, env, t, r, h⟩ := h
  refine ⟨L0, H0, t0, L, env, t, r, ?_⟩
  simp only [eUn] at h
  cases e : f env t with
  | bad => rw [e] at h; exact h
  | exc k t' => rw [e] at h; exact h
  | ok v t1 =>
    rw [e] at h
    intro x H1 L1 g1 rx
    simp only [Res.bind_ok] at h
    cases e3 : o v with
    | none => rw [e3] at h; exact h.elim
    | some q =>
      rw [e3] at h
      exact ⟨L1, v, t1, q, g1.ok, rx, e3, fun u H' L' g3 ru => h u H' L' (g1.trans g3) (hR.go g1 ru)⟩
theorem xun {op : UnaryOp} {o : Val → Option Val} (ho : UnR X (unaryOp op) (rdU z (RE z) o)) (ha : PE X a (rd z W (RO z) f)) : PE X (.UnaryOp op a pos) (rd z W (RE z) (eUn o f)) :=
  (pe_un ho ha).imp fun _ _ _ => rd_un RE.back

/-! ### arguments -/
variable {es : List Expr} {fa : A}
theorem xa_nil {R : Rr} : PA X [] (rdA z W R aNil) := by
  refine pa_nil.imp fun σ H Q h => ?_
  obtain ⟨L0, H0, t0, L, env, t, r, h⟩ := h
  exact h [] H L (.refl r.ok) (by simp [Rs])
theorem Rs.imp {R R' : Rr} {L H L' H' L1 H1 L1' H1' : _} (i : ∀ v x, R L H L' H' v x → R' L1 H1 L1' H1' v x) : ∀ {vs : List Val} {ys : List V}, Rs R L H L' H' vs ys → Rs R' L1 H1 L1' H1' vs ys
  | [], _, h => h
  | v :: vs, _, h => by
    obtain ⟨y, r, e, h1, h2⟩ := h
    exact ⟨y, r, e, i v y h1, Rs.imp i h2⟩
/-- a relation that goes on -/
structure RFwd (z : Cz) (R : Rr) : Prop where
  go : ∀ {L H L1 H1 t1 L' H' t' v x}, Go z L1 H1 t1 L' H' t' → R L H L1 H1 v x → R L H L' H' v x
theorem RE.fwd : RFwd z (RE z) := ⟨fun g h => Rv.keep g.keep _ h⟩
theorem RO.fwd : RFwd z (RO z) := ⟨fun g h => RO.go g h⟩
theorem rd_cons {R : Rr} (hB : RBack z R) (hF : RFwd z R) {f : E} {fa : A} {σ H Q} (h : rdA z W R (aCons f fa) σ H Q) : tCons (rd z W R f) (rdA z W R fa) σ H Q := by
  obtain ⟨L0, H0, t0, L, env, t, r, h⟩ := h
  refine ⟨L0, H0, t0, L, env, t, r, ?_⟩
  simp only [aCons] at h
  cases e : f env t with
  | bad => rw [e] at h; exact h
  | exc k t' => rw [e] at h; exact h
  | ok v t1 =>
    rw [e] at h
    intro x H1 L1 g1 rx
    refine ⟨L0, H0, t0, L1, env, t1, r.go g1, ?_⟩
    simp only [Res.bind_ok] at h
    cases e2 : fa env t1 with
    | bad => rw [e2] at h; exact h
    | exc k t' => rw [e2] at h; exact fun H' L' g2 => h H' L' (g1.trans g2)
    | ok vs t2 =>
      rw [e2] at h
      simp only [Res.bind_ok] at h
      intro ys H2 L2 g2 ry
      exact h (x :: ys) H2 L2 (g1.trans g2) ⟨x, ys, rfl, hF.go g2 rx, Rs.imp (fun v x h => hB.go g1 h) ry⟩
theorem xa_cons (ha : PE X e (rd z W (RE z) f)) (hr : PA X es (rdA z W (RE z) fa)) (hs : starEach (e :: es) X.env = (false, eval e X.env) :: starEach es X.env := by rfl) : PA X (e :: es) (rdA z W (RE z) (aCons f fa)) :=
  (pa_cons ha hr hs).imp fun _ _ _ => rd_cons RE.back RE.fwd
theorem xa_consO (ha : PE X e (rd z W (RO z) f)) (hr : PA X es (rdA z W (RO z) fa)) (hs : starEach (e :: es) X.env = (false, eval e X.env) :: starEach es X.env := by rfl) : PA X (e :: es) (rdA z W (RO z) (aCons f fa)) :=
  (pa_cons ha hr hs).imp fun _ _ _ => rd_cons RO.back RO.fwd
theorem Rs.rvs {L H L' H' : _} : ∀ {vs : List Val} {ys : List V}, Rs (RE z) L H L' H' vs ys → Rvs z L' H' vs ys
  | [], _, h => by simpa [Rvs, Rs] using h
  | v :: vs, _, h => by
    obtain ⟨y, r, e, h1, h2⟩ := h
    simp only [Rvs]
    exact ⟨y, r, e, h1, h2.rvs⟩

/-! ### displays -/
theorem le_line {n : Nat} (h : n ≤ lim) : n ≤ sizeLine := Nat.le_trans h (by decide)
theorem rd_tup {fa : A} {σ H Q} (h : rd z W (RE z) (eTup fa) σ H Q) : tTup (rdA z W (RE z) fa) σ H Q := by
  obtain ⟨L0, H0, t0, L, env, t, r, h⟩ := h
  refine ⟨L0, H0, t0, L, env, t, r, ?_⟩
  simp only [eTup] at h
  cases e : fa env t with
  | bad => rw [e] at h; exact h
  | exc k t' => rw [e] at h; exact h
  | ok vs t1 =>
    rw [e] at h
    simp only [Res.bind_ok] at h
    intro ys H1 L1 g1 ry
    have ry := ry.rvs
    by_cases hl : vs.length ≤ lim
    · rw [if_pos hl] at h
      refine ⟨by rw [ry.len]; exact le_line hl, fun p hp => ?_⟩
      have g2 := Go.upd (o := .tup ys) g1.ok hp
      refine h _ _ L1 (g1.trans g2) ?_
      simp only [RE, Rv]
      exact ⟨p, ys, rfl, .inl (.inl upd_same), Rvs.keep g2.keep vs ry⟩
    · rw [if_neg hl] at h; exact h.elim
theorem xtup {k : Nat} (h : PA X es (rdA z W (RE z) fa)) : PE X (.Tuple es k pos) (rd z W (RE z) (eTup fa)) := (pe_tup h).imp fun _ _ _ => rd_tup
theorem rd_lst {fa : A} {σ H Q} (h : rd z W (RN z) (eLst fa) σ H Q) : tLst (rdA z W (RE z) fa) σ H Q := by
  obtain ⟨L0, H0, t0, L, env, t, r, h⟩ := h
  refine ⟨L0, H0, t0, L, env, t, r, ?_⟩
  simp only [eLst] at h
  cases e : fa env t with
  | bad => rw [e] at h; exact h
  | exc k t' => rw [e] at h; exact h
  | ok vs t1 =>
    rw [e] at h
    simp only [Res.bind_ok] at h
    intro ys H1 L1 g1 ry
    have ry := ry.rvs
    by_cases hl : vs.length ≤ lim
    · rw [if_pos hl] at h
      refine ⟨by rw [ry.len]; exact le_line hl, fun p hp => ?_⟩
      have g2 := Go.upd (o := .lst ys) g1.ok hp
      refine h _ _ L1 (g1.trans g2) ⟨vs, p, ys, rfl, rfl, g1.free hp, fun l => ?_, upd_same, Rvs.keep g2.keep vs ry⟩
      obtain ⟨u, eu⟩ := g1.ok.1 p l
      rw [hp] at eu; cases eu
    · rw [if_neg hl] at h; exact h.elim
theorem xlst (h : PA X es (rdA z W (RE z) fa)) : PE X (.List es pos) (rd z W (RN z) (eLst fa)) := (pe_lst h).imp fun _ _ _ => rd_lst

/-! ### conditionals, truth -/
variable {c : Expr} {ct dt : T}
theorem xif (hc : PT X c (rdT z W ct)) (ha : PE X a (rd z W (RE z) f)) (hb : PE X b (rd z W (RE z) g)) : PE X (.IfExp c a b pos) (rd z W (RE z) (eIf ct f g)) := by
  refine (pe_ifExp hc ha hb).imp fun σ H Q h => ?_
  obtain ⟨L0, H0, t0, L, env, t, r, h⟩ := h
  refine ⟨L0, H0, t0, L, env, t, r, ?_⟩
  simp only [eIf] at h
  cases e : ct env t with
  | bad => rw [e] at h; exact h
  | exc k t' => rw [e] at h; exact h
  | ok k t1 =>
    rw [e] at h
    simp only [Res.bind_ok] at h
    intro H1 L1 g1
    cases k with
    | true =>
      simp only [if_true] at h ⊢
      refine ⟨L0, H0, t0, L1, env, t1, r.go g1, ?_⟩
      cases e2 : f env t1 with
      | bad => rw [e2] at h; exact h
      | exc k t' => rw [e2] at h; exact fun H' L' g2 => h H' L' (g1.trans g2)
      | ok v t2 => rw [e2] at h; exact fun x H' L' g2 rx => h x H' L' (g1.trans g2) rx
    | false =>
      simp only [Bool.false_eq_true, if_false] at h ⊢
      refine ⟨L0, H0, t0, L1, env, t1, r.go g1, ?_⟩
      cases e2 : g env t1 with
      | bad => rw [e2] at h; exact h
      | exc k t' => rw [e2] at h; exact fun H' L' g2 => h H' L' (g1.trans g2)
      | ok v t2 => rw [e2] at h; exact fun x H' L' g2 rx => h x H' L' (g1.trans g2) rx
theorem Rvs.isEmpty {L : Lk} {H : Hp} {vs : List Val} {ys : List V} (h : Rvs z L H vs ys) : ys.isEmpty = vs.isEmpty := by
  have := h.len
  cases vs <;> cases ys <;> simp_all
theorem tru_of [F : Fit z X] {L : Lk} {H : Hp} {v : Val} {x : V} {b : Bool} (h : RO z L H L H v x) (e : tru v = some b) : TruV X.K x H b := by
  rw [F.K]
  rcases h with h | ⟨vs, a, ys, rfl, rfl, n, h1, h2⟩
  · cases v <;> simp only [tru, Option.some.injEq] at e <;> try cases e
    · simp only [Rv] at h; subst h; rfl
    · simp only [Rv] at h; subst h; rfl
    · simp only [Rv] at h; subst h; rfl
    · rename_i xs
      simp only [Rv] at h
      obtain ⟨a, ys, rfl, h1, h2⟩ := h
      exact .inr (.inl ⟨ys, h1, by rw [h2.isEmpty]⟩)
    · rename_i xs
      simp only [Rv] at h
      obtain ⟨a, ys, rfl, l, h1, h2⟩ := h
      exact .inl ⟨ys, .inl (.inl h1), by rw [h2.isEmpty]⟩
  · simp only [tru, Option.some.injEq] at e
    subst e
    exact .inl ⟨ys, .inl (.inl h1), by rw [h2.isEmpty]⟩
theorem xt_tru [F : Fit z X] (ha : PE X a (rd z W (RO z) f)) (he : ∀ whole, isTrue a X.env whole = (do let v ← whole; standAt a.pos; holding [v] (truthy v)) := by intro _; rfl) : PT X a (rdT z W (tTru f)) := by
  refine (pt_truth ha he).imp fun σ H Q h => ?_
  obtain ⟨L0, H0, t0, L, env, t, r, h⟩ := h
  refine ⟨L0, H0, t0, L, env, t, r, ?_⟩
  simp only [tTru] at h
  cases e : f env t with
  | bad => rw [e] at h; exact h
  | exc k t' => rw [e] at h; exact h
  | ok v t1 =>
    rw [e] at h
    simp only [Res.bind_ok] at h
    intro x H1 L1 g1 rx
    cases e2 : tru v with
    | none => rw [e2] at h; exact h.elim
    | some k =>
      rw [e2] at h
      exact ⟨k, tru_of (z := z) (L := L1) rx e2, h H1 L1 g1⟩
theorem xt_cmp {op : CmpOp} (ho : OpR X (compareOp op) (rdOp z (RE z) o)) (ha : PE X a (rd z W (RO z) f)) (hb : PE X b (rd z W (RO z) g)) (hm : behindInMarks op b = false := by first | exact nomark _ | rfl) : PT X (.Compare a [op] [b] pos) (rdT z W (tBl (eOp o f g))) := by
  refine (pt_cmpR ho ha hb hm).imp fun σ H Q h => ?_
  refine rd_op (R := RE z) (W := W) RE.back (Q := fun x H' => ∃ k, x = .bl k ∧ Q k H') ?_
  obtain ⟨L0, H0, t0, L, env, t, r, h⟩ := h
  refine ⟨L0, H0, t0, L, env, t, r, ?_⟩
  simp only [tBl] at h
  cases e : eOp o f g env t with
  | bad => rw [e] at h; exact h
  | exc k t' => rw [e] at h; exact h
  | ok v t1 =>
    rw [e] at h
    simp only [Res.bind_ok] at h
    intro x H1 L1 g1 rx
    cases v <;> first | exact h.elim | skip
    simp only [RE, Rv] at rx
    exact ⟨_, rx, h H1 L1 g1⟩
/-- an expression that is a truth value, as a test -/
theorem xt_bl (ha : PE X a (rd z W (RE z) f)) (he : ∀ whole, isTrue a X.env whole = (do let v ← whole; standAt a.pos; holding [v] (truthy v)) := by intro _; rfl) : PT X a (rdT z W (tBl f)) := by
  refine (pt_val ha he).imp fun σ H Q h => ?_
  obtain ⟨L0, H0, t0, L, env, t, r, h⟩ := h
  refine ⟨L0, H0, t0, L, env, t, r, ?_⟩
  simp only [tBl] at h
  cases e : f env t with
  | bad => rw [e] at h; exact h
  | exc k t' => rw [e] at h; exact h
  | ok v t1 =>
    rw [e] at h
    simp only [Res.bind_ok] at h
    intro x H1 L1 g1 rx
    cases v <;> first | exact h.elim | skip
    simp only [RE, Rv] at rx
    exact ⟨_, rx, h H1 L1 g1⟩
theorem xt_not (hc : PT X c (rdT z W ct)) : PT X (.UnaryOp .Not c pos) (rdT z W (Nf.tNot ct)) := by
  refine (pt_not hc).imp fun σ H Q h => ?_
  obtain ⟨L0, H0, t0, L, env, t, r, h⟩ := h
  refine ⟨L0, H0, t0, L, env, t, r, ?_⟩
  simp only [Nf.tNot] at h
  cases e : ct env t with
  | bad => rw [e] at h; exact h
  | exc k t' => rw [e] at h; exact h
  | ok v t1 =>
    rw [e] at h
    exact h
theorem rd_and {σ H Q} (h : rdT z W (Nf.tAnd ct dt) σ H Q) : L2.tAnd (rdT z W ct) (rdT z W dt) σ H Q := by
  obtain ⟨L0, H0, t0, L, env, t, r, h⟩ := h
  refine ⟨L0, H0, t0, L, env, t, r, ?_⟩
  simp only [Nf.tAnd] at h
  cases e : ct env t with
  | bad => rw [e] at h; exact h
  | exc k t' => rw [e] at h; exact h
  | ok k t1 =>
    rw [e] at h
    simp only [Res.bind_ok] at h
    intro H1 L1 g1
    cases k with
    | false =>
      simp only [Bool.false_eq_true, if_false] at h ⊢
      exact h H1 L1 g1
    | true =>
      simp only [if_true] at h ⊢
      refine ⟨L0, H0, t0, L1, env, t1, r.go g1, ?_⟩
      cases e2 : dt env t1 with
      | bad => rw [e2] at h; exact h
      | exc k t' => rw [e2] at h; exact fun H' L' g2 => h H' L' (g1.trans g2)
      | ok v t2 => rw [e2] at h; exact fun H' L' g2 => h H' L' (g1.trans g2)
theorem rd_or {σ H Q} (h : rdT z W (Nf.tOr ct dt) σ H Q) : L2.tOr (rdT z W ct) (rdT z W dt) σ H Q := by
  obtain ⟨L0, H0, t0, L, env, t, r, h⟩ := h
  refine ⟨L0, H0, t0, L, env, t, r, ?_⟩
  simp only [Nf.tOr] at h
  cases e : ct env t with
  | bad => rw [e] at h; exact h
  | exc k t' => rw [e] at h; exact h
  | ok k t1 =>
    rw [e] at h
    simp only [Res.bind_ok] at h
    intro H1 L1 g1
    cases k with
    | true =>
      simp only [if_true] at h ⊢
      exact h H1 L1 g1
    | false =>
      simp only [Bool.false_eq_true, if_false] at h ⊢
      refine ⟨L0, H0, t0, L1, env, t1, r.go g1, ?_⟩
      cases e2 : dt env t1 with
      | bad => rw [e2] at h; exact h
      | exc k t' => rw [e2] at h; exact fun H' L' g2 => h H' L' (g1.trans g2)
      | ok v t2 => rw [e2] at h; exact fun H' L' g2 => h H' L' (g1.trans g2)
variable {rest : List Expr}
theorem xw_and1 (ha : PT X a (rdT z W ct)) : PW X (.BoolOp .And [a] pos) (rdT z W ct) := pw_and1 ha
theorem xw_or1 (ha : PT X a (rdT z W ct)) : PW X (.BoolOp .Or [a] pos) (rdT z W ct) := pw_or1 ha
theorem xw_and (ha : PT X a (rdT z W ct)) (hb : PW X (.BoolOp .And (b :: rest) pos) (rdT z W dt)) : PW X (.BoolOp .And (a :: b :: rest) pos) (rdT z W (Nf.tAnd ct dt)) := (pw_and ha hb).imp fun _ _ _ => rd_and
theorem xw_or (ha : PT X a (rdT z W ct)) (hb : PW X (.BoolOp .Or (b :: rest) pos) (rdT z W dt)) : PW X (.BoolOp .Or (a :: b :: rest) pos) (rdT z W (Nf.tOr ct dt)) := (pw_or ha hb).imp fun _ _ _ => rd_or
/-! ### and, or, not as values -/
theorem xone {op} {h : PE X a (rd z W (RE z) f)} : PE X (.BoolOp op [a] pos) (rd z W (RE z) f) := pe_one h
theorem xand [F : Fit z X] (ha : PE X a (rd z W (RE z) f)) (hb : PE X (.BoolOp .And (b :: rest) pos) (rd z W (RE z) g)) : PE X (.BoolOp .And (a :: b :: rest) pos) (rd z W (RE z) (eAnd f g)) := by
  refine (pe_andT ha hb).imp fun σ H Q h => ?_
  obtain ⟨L0, H0, t0, L, env, t, r, h⟩ := h
  refine ⟨L0, H0, t0, L, env, t, r, ?_⟩
  simp only [eAnd] at h
  cases e : f env t with
  | bad => rw [e] at h; exact h
  | exc k t' => rw [e] at h; exact h
  | ok v t1 =>
    rw [e] at h
    simp only [Res.bind_ok] at h
    intro x H1 L1 g1 rx
    cases e2 : tru v with
    | none => rw [e2] at h; exact h.elim
    | some k =>
      rw [e2] at h
      refine ⟨k, tru_of (z := z) (L := L1) (.inl rx) e2, ?_⟩
      cases k with
      | false =>
        simp only [Bool.false_eq_true, if_false] at h ⊢
        exact h x H1 L1 g1 rx
      | true =>
        simp only [if_true] at h ⊢
        refine ⟨L0, H0, t0, L1, env, t1, r.go g1, ?_⟩
        cases e3 : g env t1 with
        | bad => rw [e3] at h; exact h
        | exc k t' => rw [e3] at h; exact fun H' L' g2 => h H' L' (g1.trans g2)
        | ok v t2 => rw [e3] at h; exact fun x H' L' g2 rx => h x H' L' (g1.trans g2) rx
theorem xor [F : Fit z X] (ha : PE X a (rd z W (RE z) f)) (hb : PE X (.BoolOp .Or (b :: rest) pos) (rd z W (RE z) g)) : PE X (.BoolOp .Or (a :: b :: rest) pos) (rd z W (RE z) (eOr f g)) := by
  refine (pe_orT ha hb).imp fun σ H Q h => ?_
  obtain ⟨L0, H0, t0, L, env, t, r, h⟩ := h
  refine ⟨L0, H0, t0, L, env, t, r, ?_⟩
  simp only [eOr] at h
  cases e : f env t with
  | bad => rw [e] at h; exact h
  | exc k t' => rw [e] at h; exact h
  | ok v t1 =>
    rw [e] at h
    simp only [Res.bind_ok] at h
    intro x H1 L1 g1 rx
    cases e2 : tru v with
    | none => rw [e2] at h; exact h.elim
    | some k =>
      rw [e2] at h
      refine ⟨k, tru_of (z := z) (L := L1) (.inl rx) e2, ?_⟩
      cases k with
      | true =>
        simp only [if_true] at h ⊢
        exact h x H1 L1 g1 rx
      | false =>
        simp only [Bool.false_eq_true, if_false] at h ⊢
        refine ⟨L0, H0, t0, L1, env, t1, r.go g1, ?_⟩
        cases e3 : g env t1 with
        | bad => rw [e3] at h; exact h
        | exc k t' => rw [e3] at h; exact fun H' L' g2 => h H' L' (g1.trans g2)
        | ok v t2 => rw [e3] at h; exact fun x H' L' g2 rx => h x H' L' (g1.trans g2) rx
theorem xnot [F : Fit z X] (ha : PE X a (rd z W (RO z) f)) : PE X (.UnaryOp .Not a pos) (rd z W (RE z) (eNot f)) := by
  refine (pe_notT ha).imp fun σ H Q h => ?_
  obtain ⟨L0, H0, t0, L, env, t, r, h⟩ := h
  refine ⟨L0, H0, t0, L, env, t, r, ?_⟩
  simp only [eNot] at h
  cases e : f env t with
  | bad => rw [e] at h; exact h
  | exc k t' => rw [e] at h; exact h
  | ok v t1 =>
    rw [e] at h
    simp only [Res.bind_ok] at h
    intro x H1 L1 g1 rx
    cases e2 : tru v with
    | none => rw [e2] at h; exact h.elim
    | some k =>
      rw [e2] at h
      exact ⟨k, tru_of (z := z) (L := L1) rx e2, h _ H1 L1 g1 (by simp [RE, Rv])⟩
end
end Nf

namespace L2
open PySem PySem.Spec PyProof.Rows
theorem tuple_mulZ (l : Addr) (items : Array Value) (n : Nat) (dd : Option Addr) (sl : Array (Option Value)) (x : Int) (u : Tok) (c0 : (decide (x < -(2 ^ 63)) || decide (x ≥ 2 ^ 63)) = false) (c1 : (items.isEmpty || x == 1) = false) (c2 : (decide (x ≤ 0) || items.isEmpty) = true) :
    Meets (Builtin.«tuple.__mul__» ⟨[.ref l, .int x u], []⟩) (fun _ R s => s.heap.get? l = some { cls := .type "tuple", dict := dd, data := .seq items n, slots := sl } ∧
      R (.ok (.ret (Value.ref s.heap.objs.size))) { s with heap := s.heap.push { cls := Value.type "tuple", data := Data.seq #[] }, toks := s.toks }) :=
  .of_wp fun prog w A R s h => by
    obtain ⟨hp, g, d, tk, os⟩ := s
    obtain ⟨hl, h⟩ := h
    have f1 := AutoSeq1.idx_int
    wp_walk using wpAny_loadPart' hl
    repeat (first
      | (refine wpAny_ite_false (decide_eq_false (by rw [c0]; exact Bool.false_ne_true)) ?_; wp_walk using wpAny_loadPart' hl)
      | (refine wpAny_ite_false (decide_eq_false (by rw [c1]; exact Bool.false_ne_true)) ?_; wp_walk using wpAny_loadPart' hl)
      | (refine wpAny_ite_true (decide_eq_true (by rw [c2])) ?_; wp_walk using wpAny_loadPart' hl))
    exact ⟨_, rfl, h⟩
theorem tuple_mul1 (l : Addr) (items : Array Value) (n : Nat) (dd : Option Addr) (sl : Array (Option Value)) (u : Tok) :
    Meets (Builtin.«tuple.__mul__» ⟨[.ref l, .int 1 u], []⟩) (fun _ R s => s.heap.get? l = some { cls := .type "tuple", dict := dd, data := .seq items n, slots := sl } ∧
      R (.ok (.ret (Value.ref l))) s) :=
  .of_wp fun prog w A R s h => by
    obtain ⟨hp, g, d, tk, os⟩ := s
    obtain ⟨hl, h⟩ := h
    have f1 := AutoSeq1.idx_int
    have c0 : (decide ((1:Int) < -(2 ^ 63)) || decide ((1:Int) ≥ 2 ^ 63)) = false := by decide
    have c1 : (items.isEmpty || (1:Int) == 1) = true := by simp
    wp_walk using wpAny_loadPart' hl
    repeat (first
      | (refine wpAny_ite_false (decide_eq_false (by rw [c0]; exact Bool.false_ne_true)) ?_; wp_walk using wpAny_loadPart' hl)
      | (refine wpAny_ite_true (decide_eq_true (by rw [c1])) ?_; wp_walk using wpAny_loadPart' hl))
    exact ⟨_, rfl, h⟩
def rRepA (K : PySem.W.Frag) : R2 := fun x y H Q => ∃ l k xs, x = .ref l ∧ y = .int k ∧ SqT K H l xs ∧ xs ≠ [] ∧ -1000 ≤ k ∧ k ≤ 1000 ∧ xs.length ≤ 1000 ∧ (k = 1 → Q (.ref l) H) ∧ (k ≠ 1 → ∀ p, H p = none → Q (.ref p) (upd H p (.tup (List.replicate k.toNat xs).flatten)))
theorem op_repA {X : Cx} : OpR X (binaryOp .Mult) (rRepA X.K) := by
  intro pins s σ H x y v u Q I rx ry h
  obtain ⟨l, k, xs, rfl, rfl, hT, hne, h1, h2, hz, q1, q2⟩ := h
  by_cases h3 : 2 ≤ k
  · exact op_repT pins s σ H _ _ v u Q I rx ry ⟨l, k, xs, rfl, rfl, hT, hne, h3, h2, hz, q2 (by omega)⟩
  cases rx
  obtain ⟨t, rfl⟩ := ry
  obtain ⟨its, r, ⟨⟨cls, dd, data, sl⟩, ho, hc, n, hd⟩, hs⟩ := I.tuple hT
  simp only at hc hd
  subst hc hd
  have hle : its.length = xs.length := r.length.symm
  have hn : its ≠ [] := fun e => hne (by
    rw [e] at hle
    exact List.eq_nil_of_length_eq_zero hle.symm)
  have hi : its.toArray.isEmpty = false := by
    cases its with
    | nil => exact absurd rfl hn
    | cons a b => rfl
  have c0 : (decide (k < -(2 ^ 63)) || decide (k ≥ 2 ^ 63)) = false := by
    rw [decide_eq_false (by omega), decide_eq_false (by omega)] <;> rfl
  by_cases h4 : k = 1
  · subst h4
    refine wpAny_binaryOp_repeat_ref (T := "tuple") (U := "int") (by decide) ⟨_, ho, rfl⟩ (fun s' => typeIs_int s' 1 t) noFill_tuple_mul F.fills_int_mul F.slot_int_rmul repeat_tuple F.slot_int_index.lookup
      (call_meets F.slot_int_rmul (typeIs_int s 1 t) F.entry_int_rmul (F.args_int_rmul_2 _ _) (int_rmul_tuple 1 t l its.toArray n dd sl)
        ⟨ho, rfl, ⟨_, ho, rfl⟩, call_meets F.slot_tuple_mul ⟨_, ho, rfl⟩ F.entry_tuple_mul (F.args_tuple_mul_2 _ _) (tuple_mul1 l its.toArray n dd sl t) ⟨ho, ?_⟩⟩)
    exact ⟨.ref l, H, I, rfl, q1 rfl⟩
  · have c1 : (its.toArray.isEmpty || k == 1) = false := by
      rw [hi, Bool.false_or]
      exact beq_eq_false_iff_ne.mpr h4
    have c2 : (decide (k ≤ 0) || its.toArray.isEmpty) = true := by
      rw [decide_eq_true (by omega)]; rfl
    refine wpAny_binaryOp_repeat_ref (T := "tuple") (U := "int") (by decide) ⟨_, ho, rfl⟩ (fun s' => typeIs_int s' k t) noFill_tuple_mul F.fills_int_mul F.slot_int_rmul repeat_tuple F.slot_int_index.lookup
      (call_meets F.slot_int_rmul (typeIs_int s k t) F.entry_int_rmul (F.args_int_rmul_2 _ _) (int_rmul_tuple k t l its.toArray n dd sl)
        ⟨ho, rfl, ⟨_, ho, rfl⟩, call_meets F.slot_tuple_mul ⟨_, ho, rfl⟩ F.entry_tuple_mul (F.args_tuple_mul_2 _ _) (tuple_mulZ l its.toArray n dd sl k t c0 c1 c2) ⟨ho, ?_⟩⟩)
    have e0 : (List.replicate k.toNat xs).flatten = [] := by
      rw [show k.toNat = 0 by omega]; rfl
    refine ⟨.ref s.heap.objs.size, _, I.laid (t' := s.toks) (o := .tup (List.replicate k.toNat xs).flatten) (fun b ob q => Heap.get?_push_of_some _ q) (Nat.le_refl _) ?_, rfl, q2 h4 _ (I.hok.fresh (Nat.le_refl _))⟩
    rw [e0]
    exact ⟨Nat.zero_le _, [], .nil, IsTup.new _ _⟩
end L2

namespace Nf
open PySem PySem.Spec PyProof.Rows L2

section
variable {z : Cz} {W : Wx} {X : Cx} {L : Lk} {H : Hp} {t : Tin}
/-! ### what a look gives -/
theorem RO.int {L1 H1 : _} {i : Int} {x : V} (h : RO z L1 H1 L H (.int i) x) : x = .int i := by
  rcases h with h | ⟨_, _, _, e, _⟩
  · simpa only [Rv] using h
  · cases e
theorem RO.bl {L1 H1 : _} {i : Bool} {x : V} (h : RO z L1 H1 L H (.bl i) x) : x = .bl i := by
  rcases h with h | ⟨_, _, _, e, _⟩
  · simpa only [Rv] using h
  · cases e
theorem RO.non {L1 H1 : _} {x : V} (h : RO z L1 H1 L H .non x) : x = .non := by
  rcases h with h | ⟨_, _, _, e, _⟩
  · simpa only [Rv] using h
  · cases e
theorem RO.str {L1 H1 : _} {s : String} {x : V} (h : RO z L1 H1 L H (.str s) x) : x = .str (Str.ofString s) := by
  rcases h with h | ⟨_, _, _, e, _⟩
  · simpa only [Rv] using h
  · cases e
theorem RO.tup {L1 H1 : _} {vs : List Val} {x : V} (h : RO z L1 H1 L H (.tup vs) x) : ∃ a ys, x = .ref a ∧ SqT z.K H a ys ∧ Rvs z L H vs ys := by
  rcases h with h | ⟨_, _, _, e, _⟩
  · simpa only [Rv] using h
  · cases e
theorem RO.lst {L1 H1 : _} {vs : List Val} {x : V} (h : RO z L1 H1 L H (.lst vs) x) : ∃ a ys, x = .ref a ∧ H a = some (.lst ys) ∧ Rvs z L H vs ys := by
  rcases h with h | ⟨ws, a, ys, e, e2, _, h1, h2⟩
  · simp only [Rv] at h
    obtain ⟨a, ys, e, _, h1, h2⟩ := h
    exact ⟨a, ys, e, h1, h2⟩
  · cases e
    exact ⟨a, ys, e2, h1, h2⟩
/-- a new tuple is handed on -/
theorem newT {Q : VK} {vs : List Val} {ys : List V} (ok : Ok z L H t) (r : Rvs z L H vs ys) (q : ∀ u H' L', Go z L H t L' H' t → RE z L H L' H' (.tup vs) u → Q u H') {p : Addr} (hp : H p = none) : Q (.ref p) (upd H p (.tup ys)) := by
  have g := Go.upd (o := .tup ys) ok hp
  refine q _ _ L g ?_
  simp only [RE, Rv]
  exact ⟨p, ys, rfl, .inl (.inl upd_same), Rvs.keep g.keep vs r⟩
/-- a new list -/
theorem newN {Q : VK} {vs : List Val} {ys : List V} (ok : Ok z L H t) (r : Rvs z L H vs ys) (q : ∀ u H' L', Go z L H t L' H' t → RN z L H L' H' (.lst vs) u → Q u H') {p : Addr} (hp : H p = none) : Q (.ref p) (upd H p (.lst ys)) := by
  have g := Go.upd (o := .lst ys) ok hp
  refine q _ _ L g ⟨vs, p, ys, rfl, rfl, hp, fun l => ?_, upd_same, Rvs.keep g.keep vs r⟩
  obtain ⟨u, eu⟩ := ok.1 p l
  rw [hp] at eu; cases eu
theorem newL {Q : VK} {vs : List Val} {ys : List V} (ok : Ok z L H t) (r : Rvs z L H vs ys) (q : ∀ u H' L', Go z L H t L' H' t → RE z L H L' H' (.lst vs) u → Q u H') {p : Addr} (hp : H p = none) : Q (.ref p) (upd H p (.lst ys)) :=
  newN ok r (fun u H' L' g rn => by
    obtain ⟨L'', g', r'⟩ := rn.lock g
    exact q u H' L'' g' r') hp

/-! ### arithmetic -/
theorem os_add [F : Fit z X] : OpR X (binaryOp .Add) (rdOp z (RE z) oAdd) := by
  intro pins s σ H x y v u Q I rx ry h
  obtain ⟨L, v', w', t, r, ok, hv, hw, e, q⟩ := h
  cases v' <;> cases w' <;> simp only [oAdd, reduceCtorEq, Option.some.injEq] at e
  · subst e
    exact op_add pins s σ H x y v u Q I rx ry ⟨_, _, hv.int, hw.int, q _ H L (.refl ok) (by simp [RE, Rv])⟩
  · rename_i xs ys
    split at e
    · rename_i hl
      simp only [Option.some.injEq] at e; subst e
      obtain ⟨a, us, rfl, h1, r1⟩ := hv.tup
      obtain ⟨b, ws, rfl, h2, r2⟩ := hw.tup
      rw [← F.K] at h1 h2
      refine op_catA pins s σ H _ _ v u Q I rx ry ⟨a, b, us, ws, rfl, rfl, h1, h2, by rw [r1.len, r2.len]; exact le_line hl, fun e0 => ?_, fun n0 e0 => ?_, fun n0 n1 p hp => newT ok (r1.append r2) q hp⟩
      · have ex : xs = [] := by
          have := r1.len; rw [e0] at this; exact List.eq_nil_of_length_eq_zero this.symm
        subst ex
        refine q _ H L (.refl ok) ?_
        simp only [RE, Rv]
        exact ⟨b, ws, rfl, by rw [← F.K]; exact h2, r2⟩
      · have ex : ys = [] := by
          have := r2.len; rw [e0] at this; exact List.eq_nil_of_length_eq_zero this.symm
        subst ex
        refine q _ H L (.refl ok) ?_
        simp only [RE, Rv, List.append_nil]
        exact ⟨a, us, rfl, by rw [← F.K]; exact h1, r1⟩
    · cases e
  · rename_i xs ys
    split at e
    · rename_i hl
      simp only [Option.some.injEq] at e; subst e
      obtain ⟨a, us, rfl, h1, r1⟩ := hv.lst
      obtain ⟨b, ws, rfl, h2, r2⟩ := hw.lst
      exact op_cat pins s σ H _ _ v u Q I rx ry ⟨a, b, us, ws, rfl, rfl, h1, h2, by rw [r1.len, r2.len]; exact le_line hl, fun p hp => newL ok (r1.append r2) q hp⟩
    · cases e
theorem os_sub : OpR X (binaryOp .Sub) (rdOp z (RE z) oSub) := by
  intro pins s σ H x y v u Q I rx ry h
  obtain ⟨L, v', w', t, r, ok, hv, hw, e, q⟩ := h
  cases v' <;> cases w' <;> simp only [oSub, reduceCtorEq, Option.some.injEq] at e
  subst e
  exact op_sub pins s σ H x y v u Q I rx ry ⟨_, _, hv.int, hw.int, q _ H L (.refl ok) (by simp [RE, Rv])⟩
theorem bits_of {i j : Int} (h : bitsOk i j = true) : CMulX i j := by
  have b : ∀ x : Int, Builtin.Int.intBits x ≤ x.natAbs.log2 + 1 := fun x => by
    unfold Builtin.Int.intBits
    split <;> omega
  have h1 := b i
  have h2 := b j
  have h3 : i.natAbs.log2 + j.natAbs.log2 < 134000000 := of_decide_eq_true h
  unfold CMulX
  omega
theorem os_mul [F : Fit z X] : OpR X (binaryOp .Mult) (rdOp z (RE z) oMul) := by
  intro pins s σ H x y v u Q I rx ry h
  obtain ⟨L, v', w', t, r, ok, hv, hw, e, q⟩ := h
  cases v' <;> cases w' <;> simp only [oMul, reduceCtorEq] at e
  · split at e
    · rename_i hb
      simp only [Option.some.injEq] at e; subst e
      exact op_mulX pins s σ H x y v u Q I rx ry ⟨_, _, hv.int, hw.int, bits_of hb, q _ H L (.refl ok) (by simp [RE, Rv])⟩
    · cases e
  · rename_i xs k
    split at e
    · rename_i hb
      obtain ⟨n0, h1, h2, h3⟩ := hb
      simp only [Option.some.injEq] at e; subst e
      obtain ⟨a, us, rfl, ha, r1⟩ := hv.tup
      refine op_repA pins s σ H _ _ v u Q I rx ry ⟨a, k, us, rfl, hw.int, by rw [F.K]; exact ha, fun e0 => n0 ?_, h2, h1, by rw [r1.len]; exact h3, fun e1 => ?_, fun _ p hp => newT ok (r1.flat k.toNat) q hp⟩
      · have := r1.len; rw [e0] at this; exact List.eq_nil_of_length_eq_zero this.symm
      · refine q _ H L (.refl ok) ?_
        subst e1
        simp only [RE, Rv, rep]
        refine ⟨a, us, rfl, ha, ?_⟩
        have e2 : (List.replicate (1 : Int).toNat xs).flatten = xs := by simp
        rw [e2]; exact r1
    · cases e
  · rename_i xs k
    split at e
    · rename_i hb
      obtain ⟨h1, h2, h3⟩ := hb
      simp only [Option.some.injEq] at e; subst e
      obtain ⟨a, us, rfl, ha, r1⟩ := hv.lst
      refine op_rep pins s σ H _ _ v u Q I rx ry ⟨a, k, us, rfl, hw.int, ha, by omega, by omega, ?_, fun p hp => newL ok (r1.flat k.toNat) q hp⟩
      rw [r1.len]
      have : xs.length * k.toNat ≤ 1000 * 1000 := Nat.mul_le_mul h3 (by omega)
      exact Nat.le_trans this (by decide)
    · cases e
theorem os_div : OpR X (binaryOp .FloorDiv) (rdOp z (RE z) oDiv) := by
  intro pins s σ H x y v u Q I rx ry h
  obtain ⟨L, v', w', t, r, ok, hv, hw, e, q⟩ := h
  cases v' <;> cases w' <;> simp only [oDiv, reduceCtorEq] at e
  rename_i i j
  split at e
  · rename_i hb
    simp only [Option.some.injEq] at e; subst e
    have e1 := hv.int
    have e2 := hw.int
    subst e1 e2
    obtain ⟨t1, rfl⟩ := rx
    obtain ⟨t2, rfl⟩ := ry
    refine floordiv_int hb.1 ⟨.int (i.fdiv j), H, I.tok _, ⟨_, rfl⟩, q _ H L (.refl ok) (by simp [RE, Rv])⟩ (.inl (PyProof.noPylong_of_log2 hb.2))
  · cases e
theorem os_mod : OpR X (binaryOp .Mod) (rdOp z (RE z) oMod) := by
  intro pins s σ H x y v u Q I rx ry h
  obtain ⟨L, v', w', t, r, ok, hv, hw, e, q⟩ := h
  cases v' <;> cases w' <;> simp only [oMod, reduceCtorEq] at e
  split at e
  · rename_i hb
    simp only [Option.some.injEq] at e; subst e
    exact op_modN pins s σ H x y v u Q I rx ry ⟨_, _, hv.int, hw.int, hb, q _ H L (.refl ok) (by simp [RE, Rv])⟩
  · cases e
theorem os_pow : OpR X (binaryOp .Pow) (rdOp z (RE z) oPow) := by
  intro pins s σ H x y v u Q I rx ry h
  obtain ⟨L, v', w', t, r, ok, hv, hw, e, q⟩ := h
  cases v' <;> cases w' <;> simp only [oPow, reduceCtorEq] at e
  split at e
  · rename_i hb
    simp only [Option.some.injEq] at e; subst e
    exact op_pow pins s σ H x y v u Q I rx ry ⟨_, _, hv.int, hw.int, ⟨hb.1, by have := hb.2.1; omega, hb.2.2⟩, q _ H L (.refl ok) (by simp [RE, Rv])⟩
  · cases e
theorem us_neg : UnR X (unaryOp .USub) (rdU z (RE z) uNeg) := by
  intro pins s σ H x v Q I rx h
  obtain ⟨L, v', t, r, ok, hv, e, q⟩ := h
  cases v' <;> simp only [uNeg, reduceCtorEq, Option.some.injEq] at e
  subst e
  exact un_neg pins s σ H x v Q I rx ⟨_, hv.int, q _ H L (.refl ok) (by simp [RE, Rv])⟩

/-! ### comparisons -/
theorem os_lt : OpR X (compareOp .Lt) (rdOp z (RE z) cLt) := by
  intro pins s σ H x y v u Q I rx ry h
  obtain ⟨L, v', w', t, r, ok, hv, hw, e, q⟩ := h
  cases v' <;> cases w' <;> simp only [cLt, reduceCtorEq, Option.some.injEq] at e
  subst e
  exact op_lt pins s σ H x y v u Q I rx ry ⟨_, _, hv.int, hw.int, q _ H L (.refl ok) (by simp [RE, Rv])⟩
theorem os_le : OpR X (compareOp .LtE) (rdOp z (RE z) cLe) := by
  intro pins s σ H x y v u Q I rx ry h
  obtain ⟨L, v', w', t, r, ok, hv, hw, e, q⟩ := h
  cases v' <;> cases w' <;> simp only [cLe, reduceCtorEq, Option.some.injEq] at e
  subst e
  exact op_le pins s σ H x y v u Q I rx ry ⟨_, _, hv.int, hw.int, q _ H L (.refl ok) (by simp [RE, Rv])⟩
theorem os_gt : OpR X (compareOp .Gt) (rdOp z (RE z) cGt) := by
  intro pins s σ H x y v u Q I rx ry h
  obtain ⟨L, v', w', t, r, ok, hv, hw, e, q⟩ := h
  cases v' <;> cases w' <;> simp only [cGt, reduceCtorEq, Option.some.injEq] at e
  subst e
  exact op_gt pins s σ H x y v u Q I rx ry ⟨_, _, hv.int, hw.int, q _ H L (.refl ok) (by simp [RE, Rv])⟩
theorem os_ge : OpR X (compareOp .GtE) (rdOp z (RE z) cGe) := by
  intro pins s σ H x y v u Q I rx ry h
  obtain ⟨L, v', w', t, r, ok, hv, hw, e, q⟩ := h
  cases v' <;> cases w' <;> simp only [cGe, reduceCtorEq, Option.some.injEq] at e
  subst e
  exact op_ge pins s σ H x y v u Q I rx ry ⟨_, _, hv.int, hw.int, q _ H L (.refl ok) (by simp [RE, Rv])⟩

/-! ### equality of data -/
mutual
def toD : Val → PyData
  | .non => .none
  | .bl b => .bool b
  | .int i => .int i
  | .str s => .str (Str.ofString s)
  | .tup xs => .tuple (toDs xs)
  | .lst xs => .list (toDs xs)
  | _ => .none
def toDs : List Val → List PyData
  | [] => []
  | x :: xs => toD x :: toDs xs
end
theorem ofString_eq {a b : String} : (Str.ofString a == Str.ofString b) = decide (a = b) := by
  by_cases h : a = b
  · subst h; simp
  · rw [decide_eq_false h]
    refine beq_eq_false_iff_ne.mpr fun e => h ?_
    rw [Str.ofString_eq_toList, Str.ofString_eq_toList] at e
    injection e with e
    have e2 : a.toList.map Char.toNat = b.toList.map Char.toNat := by
      have := congrArg Array.toList e
      simpa using this
    have hinj : ∀ (l m : List Char), l.map Char.toNat = m.map Char.toNat → l = m := by
      intro l
      induction l with
      | nil => intro m hm; cases m with
        | nil => rfl
        | cons c r => simp at hm
      | cons c r ih =>
        intro m hm
        cases m with
        | nil => simp at hm
        | cons d q =>
          simp only [List.map_cons, List.cons.injEq] at hm
          have hc : c = d := Char.ext (UInt32.toNat_inj.mp hm.1)
          rw [hc, ih q hm.2]
    exact String.toList_injective (hinj _ _ e2)
mutual
theorem eqv_toD : ∀ v w : Val, v.data = true → w.data = true → PyData.eqv (toD v) (toD w) = veq v w
  | .non, w, _, hw => by cases w <;> first | rfl | simp [Val.data] at hw
  | .bl a, w, _, hw => by cases w <;> first | rfl | (simp [Val.data] at hw; done)
  | .int a, w, _, hw => by cases w <;> first | rfl | (simp [Val.data] at hw; done)
  | .str a, w, _, hw => by
    cases w <;> first | rfl | (simp [Val.data] at hw; done) | skip
    simp only [toD, PyData.eqv, veq]
    exact ofString_eq
  | .tup xs, w, hv, hw => by
    cases w <;> first | rfl | (simp [Val.data] at hw; done) | skip
    exact eqv_toDs xs _ (by simpa [Val.data] using hv) (by simpa [Val.data] using hw)
  | .lst xs, w, hv, hw => by
    cases w <;> first | rfl | (simp [Val.data] at hw; done) | skip
    exact eqv_toDs xs _ (by simpa [Val.data] using hv) (by simpa [Val.data] using hw)
  | .iset _, _, h, _ => by simp [Val.data] at h
  | .dct _, _, h, _ => by simp [Val.data] at h
  | .tin, _, h, _ => by simp [Val.data] at h
  | .fn _, _, h, _ => by simp [Val.data] at h
theorem eqv_toDs : ∀ xs ys : List Val, dataL xs = true → dataL ys = true → PyData.eqvAll (toDs xs) (toDs ys) = veqL xs ys
  | [], [], _, _ => rfl
  | [], _ :: _, _, _ => rfl
  | _ :: _, [], _, _ => rfl
  | x :: xs, y :: ys, hx, hy => by
    simp only [dataL, Bool.and_eq_true] at hx hy
    simp only [toDs, PyData.eqvAll, veqL]
    rw [eqv_toD x y hx.1 hy.1, eqv_toDs xs ys hx.2 hy.2]
end
mutual
theorem dp_of {H : Hp} : ∀ (v : Val) {x : V}, v.data = true → Rv z L H v x → Dp z.K H x (toD v)
  | .non, _, _, h => by simp only [Rv] at h; subst h; exact .non
  | .bl b, _, _, h => by simp only [Rv] at h; subst h; exact .bl b
  | .int b, _, _, h => by simp only [Rv] at h; subst h; exact .int b
  | .str b, _, _, h => by simp only [Rv] at h; subst h; exact .str _
  | .tup xs, _, d, h => by
    simp only [Rv] at h
    obtain ⟨a, ys, rfl, h1, h2⟩ := h
    exact .tup h1 (dp_all xs (by simpa [Val.data] using d) h2)
  | .lst xs, _, d, h => by
    simp only [Rv] at h
    obtain ⟨a, ys, rfl, _, h1, h2⟩ := h
    exact .lst (.inl (.inl h1)) (dp_all xs (by simpa [Val.data] using d) h2)
  | .iset _, _, h, _ => by simp [Val.data] at h
  | .dct _, _, h, _ => by simp [Val.data] at h
  | .tin, _, h, _ => by simp [Val.data] at h
  | .fn _, _, h, _ => by simp [Val.data] at h
theorem dp_all {H : Hp} : ∀ (vs : List Val) {ys : List V}, dataL vs = true → Rvs z L H vs ys → DpAll z.K H ys (toDs vs)
  | [], _, _, h => by simp only [Rvs] at h; subst h; exact .nil
  | v :: vs, _, d, h => by
    simp only [Rvs] at h
    obtain ⟨y, r, rfl, h1, h2⟩ := h
    simp only [dataL, Bool.and_eq_true] at d
    exact .cons (dp_of v d.1 h1) (dp_all vs d.2 h2)
end
theorem dp_ro {L1 H1 : _} {v : Val} {x : V} (d : v.data = true) (h : RO z L1 H1 L H v x) : Dp z.K H x (toD v) := by
  rcases h with h | ⟨ws, a, ys, rfl, rfl, _, h1, h2⟩
  · exact dp_of v d h
  · exact .lst (.inl (.inl h1)) (dp_all ws (by simpa [Val.data] using d) h2)
theorem strOk_of {s : String} (h : s.toList.all (fun c => decide (c.toNat < 128)) = true) : PyData.strOk (Str.ofString s) = true := by
  rw [Str.ofString_eq_toList]
  unfold PyData.strOk
  rw [List.all_toArray, List.all_map, List.all_eq_true]
  rw [List.all_eq_true] at h
  intro c hc
  have := of_decide_eq_true (h c hc)
  exact decide_eq_true (by omega)
mutual
theorem lay_of : ∀ v : Val, v.data = true → (toD v).canLay0 = true ∧ (toD v).depth = v.depth
  | .non, _ => ⟨rfl, rfl⟩
  | .bl _, _ => ⟨rfl, rfl⟩
  | .int _, _ => ⟨rfl, rfl⟩
  | .str s, h => ⟨by simp only [toD, PyData.canLay0]; exact strOk_of (by simpa [Val.data] using h), rfl⟩
  | .tup xs, h => by
    have q := lay_all xs (by simpa [Val.data] using h)
    simp only [toD, PyData.canLay0, PyData.depth, Val.depth]
    exact ⟨q.1, by rw [q.2]⟩
  | .lst xs, h => by
    have q := lay_all xs (by simpa [Val.data] using h)
    simp only [toD, PyData.canLay0, PyData.depth, Val.depth]
    exact ⟨q.1, by rw [q.2]⟩
  | .iset _, h => by simp [Val.data] at h
  | .dct _, h => by simp [Val.data] at h
  | .tin, h => by simp [Val.data] at h
  | .fn _, h => by simp [Val.data] at h
theorem lay_all : ∀ vs : List Val, dataL vs = true → PyData.canLayAll0 (toDs vs) = true ∧ PyData.depthAll (toDs vs) = depthL vs
  | [], _ => ⟨rfl, rfl⟩
  | v :: vs, h => by
    simp only [dataL, Bool.and_eq_true] at h
    have q1 := lay_of v h.1
    have q2 := lay_all vs h.2
    simp only [toDs, PyData.canLayAll0, PyData.depthAll, depthL]
    exact ⟨by rw [q1.1, q2.1]; rfl, by rw [q1.2, q2.2]⟩
end
theorem shaped_of {v : Val} (d : v.data = true) (h : v.depth ≤ 31) : SeqAt.shaped (toD v) = true := by
  have q := lay_of v d
  unfold SeqAt.shaped
  rw [q.1, q.2, Bool.true_and]
  exact decide_eq_true (by omega)
theorem os_eq [F : Fit z X] : OpR X (compareOp .Eq) (rdOp z (RE z) cEq) := by
  intro pins s σ H x y v u Q I rx ry h
  obtain ⟨L, v', w', t, r, ok, hv, hw, e, q⟩ := h
  simp only [cEq] at e
  split at e
  · rename_i hb
    simp only [Bool.and_eq_true, decide_eq_true_eq] at hb
    obtain ⟨⟨⟨d1, d2⟩, l1⟩, l2⟩ := hb
    simp only [Option.some.injEq] at e; subst e
    refine op_eqD (by have := F.hu; omega) pins s σ H x y v u Q I rx ry ⟨toD v', toD w', by rw [F.K]; exact dp_ro d1 hv, by rw [F.K]; exact dp_ro d2 hw, shaped_of d1 (by omega), shaped_of d2 (by omega), ?_⟩
    rw [eqv_toD v' w' d1 d2]
    exact q _ H L (.refl ok) (by simp [RE, Rv])
  · cases e
theorem os_ne [F : Fit z X] : OpR X (compareOp .NotEq) (rdOp z (RE z) cNe) := by
  intro pins s σ H x y v u Q I rx ry h
  obtain ⟨L, v', w', t, r, ok, hv, hw, e, q⟩ := h
  simp only [cNe] at e
  split at e
  · rename_i hb
    simp only [Bool.and_eq_true, decide_eq_true_eq] at hb
    obtain ⟨⟨⟨d1, d2⟩, l1⟩, l2⟩ := hb
    simp only [Option.some.injEq] at e; subst e
    refine op_neD (by have := F.hu; omega) pins s σ H x y v u Q I rx ry ⟨toD v', toD w', by rw [F.K]; exact dp_ro d1 hv, by rw [F.K]; exact dp_ro d2 hw, shaped_of d1 (by omega), shaped_of d2 (by omega), ?_⟩
    rw [eqv_toD v' w' d1 d2]
    exact q _ H L (.refl ok) (by simp [RE, Rv])
  · cases e
end
end Nf

namespace HT
open PySem PySem.Spec PyProof.Rows
section
variable {prog : Program} {w : World} {A : Around} {E : Value → Shared → Prop} {s : Shared}
theorem fm_congr {α β : Type} {f g : α → Option β} : ∀ {l : List α}, (∀ x ∈ l, f x = g x) → l.filterMap f = l.filterMap g
  | [], _ => rfl
  | a :: l, h => by
    rw [List.filterMap_cons, List.filterMap_cons, h a List.mem_cons_self, fm_congr fun x hx => h x (List.mem_cons_of_mem _ hx)]
theorem rev_pick (xs : Array Value) : ((List.range xs.size).filterMap fun (m : Nat) => xs[(((xs.size : Int) - 1) + (m : Int) * (-1)).toNat]?).toArray = xs.toList.reverse.toArray := by
  congr 1
  have h1 : ((List.range xs.size).filterMap fun (m : Nat) => xs[(((xs.size : Int) - 1) + (m : Int) * (-1)).toNat]?) = (List.range xs.size).filterMap fun (m : Nat) => xs.toList.reverse[m]? := by
    refine fm_congr fun m hm => ?_
    have hm' : m < xs.size := List.mem_range.mp hm
    rw [List.getElem?_reverse (by simpa using hm')]
    have : (((xs.size : Int) - 1) + (m : Int) * (-1)).toNat = xs.toList.length - 1 - m := by
      rw [Array.length_toList]; omega
    rw [this, Array.getElem?_toList]
  rw [h1]
  have h2 : ∀ l : List Value, (List.range l.length).filterMap (fun m => l[m]?) = l := by
    intro l
    have e : (List.range l.length).filterMap (fun m => l[m]?) = (List.range l.length).map fun m => l[m]?.getD (.none) := by
      rw [← List.filterMap_eq_map]
      refine fm_congr fun m hm => ?_
      have hm' : m < l.length := List.mem_range.mp hm
      simp [List.getElem?_eq_getElem hm']
    rw [e]
    refine List.ext_getElem (by simp) fun i h1 h2 => ?_
    simp [List.getElem?_eq_getElem h2]
  have h3 := h2 xs.toList.reverse
  rw [List.length_reverse, Array.length_toList] at h3
  exact h3
theorem getItem_tuple_rev {t sl : Addr} {items : Array Value} {vl vu vs : Value} {Q : Value → Shared → Prop} (ht : IsTup s.heap t items) (hs : s.heap.IsSliceOf sl vl vu vs) (pl : IsPart vl none) (pu : IsPart vu none) (ps : IsPart vs (some (-1)))
    (h : Q (.ref s.heap.objs.size) { s with heap := s.heap.push { cls := .type "tuple", data := .seq items.toList.reverse.toArray } })
    (hsz : items.size ≤ sizeLine) : wpAny (model prog w) A (getItem (.ref t) (.ref sl)) Q E s := by
  have htake : sizeOk (.seq items.toList.reverse.toArray) := by
    show items.toList.reverse.toArray.size ≤ sizeLine
    rw [List.size_toArray, List.length_reverse, Array.length_toList]
    exact hsz
  obtain ⟨os, hos, hcs, hds⟩ := id hs
  have hTs : s.TypeIs (.ref sl) "slice" := ⟨os, hos, hcs⟩
  unfold getItem
  try with_reducible refine wpAny_holding ?_
  first | refine wpAny_bind (wpAny_pure ?_) | skip
  refine wpAny_bind (wpAny_sequenceKey ht.typeIs (by decide) ?_)
  refine wpAny_bind (wpAny_callSpecial?_slot (name := Str.ofString "__getitem__") ht.typeIs PyProof.Rows.slot_tuple_getitem
    (wpAny_call_entry PyProof.Rows.slot_tuple_getitem ht.typeIs entry_tuple_getitem ?_ (args_tuple_getitem _ _)))
  show wpAny _ _ (Builtin.Tuple.tupleItemsOf (.ref t) >>= _) _ _ s
  refine wpAny_bind (tupleItemsOf_ ht ?_)
  refine wpAny_bind (wpAny_typeOf hTs ?_)
  rw [if_pos (by decide)]
  have happ : ∀ (A : Around) (E : _) (Q : Int × Int × Nat → Shared → Prop), Q ((items.size : Int) - 1, -1, items.size) s → wpAny (model prog w) A (Builtin.Slice.sliceApplied (.ref sl) (pure (items.size : Int))) Q E s := by
    intro A E Q hQ
    unfold Builtin.Slice.sliceApplied Builtin.Slice.sliceFields
    refine wpAny_bind (wpAny_bind (wpAny_field hos hds (x := vl) rfl (wpAny_bind (wpAny_field hos hds (x := vu) rfl (wpAny_bind (wpAny_field hos hds (x := vs) rfl (wpAny_pure ?_)))))))
    refine wpAny_bind (slicePart_ ps ?_)
    show wpAny _ _ (if ((-1 : Int) == 0) = true then _ else _) _ _ s
    rw [if_neg (by decide)]
    refine wpAny_bind (slicePart_ pl (wpAny_bind (slicePart_ pu (wpAny_bind (wpAny_pure ?_)))))
    have e1 : Builtin.Slice.sliceAdjust none none (-1) (items.size : Int) = ((items.size : Int) - 1, -1) := by
      unfold Builtin.Slice.sliceAdjust
      simp
    show wpAny _ _ (match Builtin.Slice.sliceAdjust none none (-1) (items.size : Int) with | (lo, hi) => pure (lo, (-1 : Int), Builtin.Slice.slicePlaces lo hi (-1))) _ _ s
    rw [e1]
    show wpAny _ _ (pure ((items.size : Int) - 1, (-1 : Int), Builtin.Slice.slicePlaces ((items.size : Int) - 1) (-1) (-1))) _ _ s
    have e2 : Builtin.Slice.slicePlaces ((items.size : Int) - 1) (-1) (-1) = items.size := by
      unfold Builtin.Slice.slicePlaces
      simp
      omega
    rw [e2]
    exact wpAny_pure hQ
  refine wpAny_bind (happ _ _ _ ?_)
  have hno : ¬ ((((items.size : Int) - 1) == 0 && (-1 : Int) == 1 && items.size == items.size) = true) := by simp
  show wpAny _ _ (if (((items.size : Int) - 1) == 0 && (-1 : Int) == 1 && items.size == items.size) = true then _ else _) _ _ s
  rw [if_neg hno, rev_pick]
  first
    | exact wpAny_bind (m := Builtin.Tuple.tupleExact _) (wpAny_newObj_type (wpAny_pure ⟨_, rfl, wpAny_pure h⟩) htake)
    | exact wpAny_bind (m := Builtin.Tuple.tupleExact _) (wpAny_newObj_type (wpAny_bind (wpAny_pure (wpAny_pure ⟨_, rfl, wpAny_pure h⟩))) htake)
    | exact wpAny_bind (wpAny_bind (m := Builtin.Tuple.tupleExact _) (wpAny_newObj_type (wpAny_pure (wpAny_pure ⟨_, rfl, wpAny_pure h⟩)) htake))
    | exact wpAny_bind (wpAny_bind (m := Builtin.Tuple.tupleExact _) (wpAny_newObj_type (wpAny_pure ⟨_, rfl, wpAny_pure h⟩) htake))
end
end HT
namespace L2
open PySem PySem.Spec PyProof.Rows
def tRevA (K : PySem.W.Frag) (te : TE) : TE := fun σ H Q => te σ H fun x H1 => ∃ a xs, x = .ref a ∧ ((SqL K H1 a xs ∧ ∀ p, H1 p = none → Q (.ref p) (upd H1 p (.lst xs.reverse))) ∨ (SqT K H1 a xs ∧ ∀ p, H1 p = none → Q (.ref p) (upd H1 p (.tup xs.reverse))))
theorem pe_revA {X : Cx} {e : PySem.Expr} {te : TE} {k : Nat} {p1 p2 p3 pos : Pos} (he : PE X e te) : PE X (.Subscript e (.Slice none none (some (.UnaryOp .USub (.Constant (.int 1) k p1) p2)) p3) pos) (tRevA X.K te) := by
  refine ⟨fun pins s σ H Q I h => ?_⟩
  refine Subscript_ (thn (he.run pins s σ H _ I h) fun v s1 ⟨x, H1, I1, r1, q1⟩ => ?_)
  obtain ⟨a, xs, ex, q1⟩ := q1
  subst ex
  cases r1
  have hst : PO X (some (.UnaryOp .USub (.Constant (.int 1) k p1) p2)) (tPart (tUn (rU fun i => .int (-i)) (tC (.int 1)))) := po_some (pe_un un_neg pe_int)
  refine wpAny_Slice (thn (po_none.run pins s1 σ H1 (fun o H2 => o = none ∧ H2 = H1) I1 ⟨rfl, rfl⟩) fun vl s2 ⟨l, H2, I2, pl, el, e2⟩ => ?_)
  subst el e2
  refine thn (po_none.run pins s2 σ H2 (fun o H3 => o = none ∧ H3 = H2) I2 ⟨rfl, rfl⟩) fun vu s3 ⟨u, H3, I3, pu, eu, e3⟩ => ?_
  subst eu e3
  refine thn (hst.run pins s3 σ H3 (fun o H4 => o = some (-1) ∧ H4 = H3) I3 ⟨1, rfl, -1, rfl, rfl, rfl⟩) fun vs s4 ⟨o, H4, I4, ps, eo, e4⟩ => ?_
  subst eo e4
  have I5 : Inv X pins σ H4 { s4 with heap := s4.heap.push { cls := .type "slice", data := .fields #[vl, vu, vs] } } := I4.kept (t' := s4.toks) fun b ob q => Heap.get?_push_of_some _ q
  show wpAny (model X.prog X.w) X.A (subscriptTail e (.Slice none none (some (.UnaryOp .USub (.Constant (.int 1) k p1) p2)) p3) (.ref a) (.ref s4.heap.objs.size)) (EP X pins σ Q) X.xe { s4 with heap := s4.heap.push { cls := .type "slice", data := .fields #[vl, vu, vs] } }
  rcases q1 with ⟨hx, q⟩ | ⟨hx, q⟩
  · obtain ⟨its, r, ht, hz⟩ := I5.list hx
    have hlen := r.length
    refine tail_any (ops := [.ref a, .ref s4.heap.objs.size]) ht.isList.typeIs (PySem.slot_list_getitem.lookup) ?_ (by with_unfolding_all rfl)
    refine wpAny_getItem_list_slice ht.isList (Heap.IsSliceOf.new _ vl vu vs) pl pu ps (by decide) ?_ (by rw [List.size_toArray]; omega)
    rw [PySem.W.krv_pick]
    refine ⟨.ref _, _, I5.laid (t' := s4.toks) (o := .lst xs.reverse) (fun b ob q => Heap.get?_push_of_some _ q) (Nat.le_refl _) ?_, rfl, q _ (I5.hok.fresh (Nat.le_refl _))⟩
    exact ⟨by rw [List.length_reverse]; exact hz, _, 0, r.reverse, Heap.get?_push_size _ rfl⟩
  · obtain ⟨its, r, ht, hz⟩ := I5.tuple hx
    have hlen := r.length
    refine tail_any (ops := [.ref a, .ref s4.heap.objs.size]) ht.typeIs (PyProof.Rows.slot_tuple_getitem.lookup) ?_ (by with_unfolding_all rfl)
    refine HT.getItem_tuple_rev ht (Heap.IsSliceOf.new _ vl vu vs) pl pu ps ?_ (by rw [List.size_toArray]; omega)
    refine ⟨.ref _, _, I5.laid (t' := s4.toks) (o := .tup xs.reverse) (fun b ob q => Heap.get?_push_of_some _ q) (Nat.le_refl _) ?_, rfl, q _ (I5.hok.fresh (Nat.le_refl _))⟩
    exact ⟨by rw [List.length_reverse]; exact hz, its.reverse, r.reverse, IsTup.new _ _⟩
end L2

namespace Nf
open PySem PySem.Spec PyProof.Rows L2

section
variable {z : Cz} {W : Wx} {X : Cx} {L : Lk} {H : Hp} {t : Tin} {R : Rr}

/-! ### built-ins by values -/
def rdC (z : Cz) (R : Rr) (op : List Val → Option Val) : List V → Hp → VK → Prop := fun xs H Q => ∃ L vs t r, Ok z L H t ∧ Rs (RO z) L H L H vs xs ∧ op vs = some r ∧ ∀ u H' L', Go z L H t L' H' t → R L H L' H' r u → Q u H'
theorem rd_b {op : List Val → Option Val} {a : A} (hR : RBack z R) {σ H Q} (h : rd z W R (eB op a) σ H Q) : tCB (rdC z R op) (rdA z W (RO z) a) σ H Q := by
  obtain ⟨L0, H0, t0, L, env, t, r, h⟩ := h
  refine ⟨L0, H0, t0, L, env, t, r, ?_⟩
  simp only [eB] at h
  cases e : a env t with
  | bad => rw [e] at h; exact h
  | exc k t' => rw [e] at h; exact h
  | ok vs t1 =>
    rw [e] at h
    simp only [Res.bind_ok] at h
    intro xs H1 L1 g1 rx
    cases e3 : op vs with
    | none => rw [e3] at h; exact h.elim
    | some q =>
      rw [e3] at h
      exact ⟨L1, vs, t1, q, g1.ok, Rs.imp (show ∀ v x, RO z L H L1 H1 v x → RO z L1 H1 L1 H1 v x from fun _ _ h => h) rx, e3, fun u H' L' g3 ru => h u H' L' (g1.trans g3) (hR.go g1 ru)⟩
variable {e : Expr} {es : List Expr} {a : A} {x : PySem.Str} {p pos : Pos} {op : List Val → Option Val}
theorem xbf {id : String} (hR : RBack z R) (hc : CallR X (.builtin id) (rdC z R op)) (hg : Gl X x) (hm : X.mg x = none) (hv : bootBuiltins x = some (.builtin id)) (ha : PA X (e :: es) (rdA z W (RO z) a)) (hn : x ≠ "__name__" := by decide) (hdb : (x == ("__debug__" : PySem.Str)) = false := by decide)
    (he : starEach (e :: es) X.env = (false, eval e X.env) :: starEach es X.env := by rfl) (hpl : (backTo pos (starEach es X.env)).any (·.1) = false := by rfl) :
    PE X (.Call (.Name x p) (e :: es) [] pos) (rd z W R (eB op a)) := (pe_callB hc hg hm hv ha hn hdb he hpl).imp fun _ _ _ => rd_b hR
theorem xbt {T : String} (hR : RBack z R) (hc : CallR X (.type T) (rdC z R op)) (hg : Gl X x) (hm : X.mg x = none) (hv : bootBuiltins x = some (.type T)) (ha : PA X (e :: es) (rdA z W (RO z) a)) (hn : x ≠ "__name__" := by decide) (hdb : (x == ("__debug__" : PySem.Str)) = false := by decide)
    (he : starEach (e :: es) X.env = (false, eval e X.env) :: starEach es X.env := by rfl) (hpl : (backTo pos (starEach es X.env)).any (·.1) = false := by rfl) :
    PE X (.Call (.Name x p) (e :: es) [] pos) (rd z W R (eB op a)) := (pe_callTy hc hg hm hv ha hn hdb he hpl).imp fun _ _ _ => rd_b hR
theorem Rs.one {R : Rr} {L H L' H' : _} {v : Val} {ys : List V} (h : Rs R L H L' H' [v] ys) : ∃ y, ys = [y] ∧ R L H L' H' v y := by
  obtain ⟨y, r, rfl, h1, h2⟩ := h
  cases (show r = [] from h2)
  exact ⟨y, rfl, h1⟩
theorem Rs.two {R : Rr} {L H L' H' : _} {v w : Val} {ys : List V} (h : Rs R L H L' H' [v, w] ys) : ∃ y u, ys = [y, u] ∧ R L H L' H' v y ∧ R L H L' H' w u := by
  obtain ⟨y, r, rfl, h1, h2⟩ := h
  obtain ⟨u, rfl, h3⟩ := Rs.one h2
  exact ⟨y, u, rfl, h1, h3⟩
theorem cs_len [F : Fit z X] : CallR X (.builtin "len") (rdC z (RE z) bLen) := by
  intro pins s σ H xs us Q I rx h
  obtain ⟨L, vs, t, r, ok, hv, e, q⟩ := h
  match vs, e with
  | [.tup ws], e =>
    simp only [bLen, Option.some.injEq] at e; subst e
    obtain ⟨y, rfl, h1⟩ := hv.one
    obtain ⟨a, ys, rfl, h2, h3⟩ := h1.tup
    refine call_len_seq pins s σ H _ us Q I rx ⟨a, ys, rfl, .inr (by rw [F.K]; exact h2), ?_⟩
    rw [h3.len]
    exact q _ H L (.refl ok) (by simp [RE, Rv])
  | [.lst ws], e =>
    simp only [bLen, Option.some.injEq] at e; subst e
    obtain ⟨y, rfl, h1⟩ := hv.one
    obtain ⟨a, ys, rfl, h2, h3⟩ := h1.lst
    refine call_len_seq pins s σ H _ us Q I rx ⟨a, ys, rfl, .inl (.inl (.inl h2)), ?_⟩
    rw [h3.len]
    exact q _ H L (.refl ok) (by simp [RE, Rv])
theorem cs_abs : CallR X (.builtin "abs") (rdC z (RE z) bAbs) := by
  intro pins s σ H xs us Q I rx h
  obtain ⟨L, vs, t, r, ok, hv, e, q⟩ := h
  match vs, e with
  | [.int i], e =>
    simp only [bAbs, Option.some.injEq] at e; subst e
    obtain ⟨y, rfl, h1⟩ := hv.one
    cases h1.int
    exact call_abs pins s σ H _ us Q I rx ⟨i, rfl, q _ H L (.refl ok) (by simp [RE, Rv])⟩
theorem foldl_max_mem : ∀ (r : List Int) (n : Int), r.foldl max n = n ∨ r.foldl max n ∈ r
  | [], n => .inl rfl
  | a :: r, n => by
    simp only [List.foldl_cons]
    rcases foldl_max_mem r (max n a) with h | h
    · rw [h]
      rcases Int.le_total n a with c | c
      · rw [Int.max_eq_right c]; exact .inr List.mem_cons_self
      · rw [Int.max_eq_left c]; exact .inl rfl
    · exact .inr (List.mem_cons_of_mem _ h)
theorem foldl_max_le : ∀ (r : List Int) (n : Int), n ≤ r.foldl max n ∧ ∀ y ∈ r, y ≤ r.foldl max n
  | [], n => ⟨Int.le_refl _, by simp⟩
  | a :: r, n => by
    simp only [List.foldl_cons]
    have h := foldl_max_le r (max n a)
    refine ⟨Int.le_trans (Int.le_max_left n a) h.1, fun y hy => ?_⟩
    rcases List.mem_cons.mp hy with e | hy
    · rw [e]; exact Int.le_trans (Int.le_max_right n a) h.1
    · exact h.2 y hy
theorem foldl_min_mem : ∀ (r : List Int) (n : Int), r.foldl min n = n ∨ r.foldl min n ∈ r
  | [], n => .inl rfl
  | a :: r, n => by
    simp only [List.foldl_cons]
    rcases foldl_min_mem r (min n a) with h | h
    · rw [h]
      rcases Int.le_total n a with c | c
      · rw [Int.min_eq_left c]; exact .inl rfl
      · rw [Int.min_eq_right c]; exact .inr List.mem_cons_self
    · exact .inr (List.mem_cons_of_mem _ h)
theorem foldl_min_le : ∀ (r : List Int) (n : Int), r.foldl min n ≤ n ∧ ∀ y ∈ r, r.foldl min n ≤ y
  | [], n => ⟨Int.le_refl _, by simp⟩
  | a :: r, n => by
    simp only [List.foldl_cons]
    have h := foldl_min_le r (min n a)
    refine ⟨Int.le_trans h.1 (Int.min_le_left n a), fun y hy => ?_⟩
    rcases List.mem_cons.mp hy with e | hy
    · rw [e]; exact Int.le_trans h.1 (Int.min_le_right n a)
    · exact h.2 y hy
theorem cs_max [F : Fit z X] : CallR X (.builtin "max") (rdC z (RE z) bMax) := by
  intro pins s σ H xs us Q I rx h
  obtain ⟨L, vs, t, r, ok, hv, e, q⟩ := h
  match vs, e with
  | [.int i, .int j], e =>
    simp only [bMax, Option.some.injEq] at e; subst e
    obtain ⟨y, w, rfl, h1, h2⟩ := hv.two
    cases h1.int; cases h2.int
    exact call_max2 F.calm pins s σ H _ us Q I rx ⟨i, j, rfl, q _ H L (.refl ok) (by simp [RE, Rv])⟩
  | [.lst ws], e =>
    simp only [bMax, Option.bind_eq_some_iff] at e
    obtain ⟨ns, e1, e2⟩ := e
    obtain ⟨y, rfl, h1⟩ := hv.one
    obtain ⟨a, ys, rfl, h2, h3⟩ := h1.lst
    have e3 := h3.intsOf e1
    subst e3
    cases ns with
    | nil => cases e2
    | cons n ns =>
      simp only [Option.some.injEq] at e2; subst e2
      refine cr_max F.calm pins s σ H _ us Q I rx ⟨a, n :: ns, rfl, .inl (.inl h2), by simp, fun m hm hle => ?_⟩
      have hm' : m = ns.foldl max n := by
        have h4 := foldl_max_le ns n
        have h5 := foldl_max_mem ns n
        refine Int.le_antisymm ?_ ?_
        · rcases List.mem_cons.mp hm with e | hm
          · rw [e]; exact h4.1
          · exact h4.2 m hm
        · rcases h5 with h5 | h5
          · rw [h5]; exact hle n List.mem_cons_self
          · exact hle _ (List.mem_cons_of_mem _ h5)
      rw [hm']
      exact q _ H L (.refl ok) (by simp [RE, Rv])
  | [.tup ws], e =>
    simp only [bMax, Option.bind_eq_some_iff] at e
    obtain ⟨ns, e1, e2⟩ := e
    obtain ⟨y, rfl, h1⟩ := hv.one
    obtain ⟨a, ys, rfl, h2, h3⟩ := h1.tup
    have e3 := h3.intsOf e1
    subst e3
    cases ns with
    | nil => cases e2
    | cons n ns =>
      simp only [Option.some.injEq] at e2; subst e2
      rw [← F.K] at h2
      obtain ⟨its, rv, pl, hz⟩ := I.tuple h2
      rw [Vals.ref1 rx]
      refine PySem.W.max_tuple_datum (x := n) (xs := ns) (I.ok.hd F.calm) (show s.heap.IsTuple a its.toArray from pl) (PySem.W.HoldAll.of_ints rv.ints) (by have := F.hu; show X.A.units + 1 + 0 < cLine; omega) fun i v h' tk hi hh hk => ?_
      have ex : PySem.W.maxOf n ns = ns.foldl max n := by
        unfold PySem.W.maxOf
        congr 1
        funext a y
        show (if decide (a < y) = true then y else a) = max a y
        by_cases c : a < y
        · rw [if_pos (decide_eq_true c)]; omega
        · rw [if_neg (by simpa using c)]; omega
      rw [ex] at hh
      obtain ⟨bs, hr⟩ := hh
      cases hr
      exact ⟨.int _, H, I.kept hk, ⟨_, rfl⟩, q _ H L (.refl ok) (by simp [RE, Rv])⟩
theorem cs_min [F : Fit z X] : CallR X (.builtin "min") (rdC z (RE z) bMin) := by
  intro pins s σ H xs us Q I rx h
  obtain ⟨L, vs, t, r, ok, hv, e, q⟩ := h
  match vs, e with
  | [.int i, .int j], e =>
    simp only [bMin, Option.some.injEq] at e; subst e
    obtain ⟨y, w, rfl, h1, h2⟩ := hv.two
    cases h1.int; cases h2.int
    exact call_min2 F.calm pins s σ H _ us Q I rx ⟨i, j, rfl, q _ H L (.refl ok) (by simp [RE, Rv])⟩
  | [.lst ws], e =>
    simp only [bMin, Option.bind_eq_some_iff] at e
    obtain ⟨ns, e1, e2⟩ := e
    obtain ⟨y, rfl, h1⟩ := hv.one
    obtain ⟨a, ys, rfl, h2, h3⟩ := h1.lst
    have e3 := h3.intsOf e1
    subst e3
    cases ns with
    | nil => cases e2
    | cons n ns =>
      simp only [Option.some.injEq] at e2; subst e2
      refine cr_min F.calm pins s σ H _ us Q I rx ⟨a, n :: ns, rfl, .inl (.inl h2), by simp, fun m hm hle => ?_⟩
      have hm' : m = ns.foldl min n := by
        have h4 := foldl_min_le ns n
        have h5 := foldl_min_mem ns n
        refine Int.le_antisymm ?_ ?_
        · rcases h5 with h5 | h5
          · rw [h5]; exact hle n List.mem_cons_self
          · exact hle _ (List.mem_cons_of_mem _ h5)
        · rcases List.mem_cons.mp hm with e | hm
          · rw [e]; exact h4.1
          · exact h4.2 m hm
      rw [hm']
      exact q _ H L (.refl ok) (by simp [RE, Rv])
  | [.tup ws], e =>
    simp only [bMin, Option.bind_eq_some_iff] at e
    obtain ⟨ns, e1, e2⟩ := e
    obtain ⟨y, rfl, h1⟩ := hv.one
    obtain ⟨a, ys, rfl, h2, h3⟩ := h1.tup
    have e3 := h3.intsOf e1
    subst e3
    cases ns with
    | nil => cases e2
    | cons n ns =>
      simp only [Option.some.injEq] at e2; subst e2
      rw [← F.K] at h2
      obtain ⟨its, rv, pl, hz⟩ := I.tuple h2
      rw [Vals.ref1 rx]
      refine PySem.W.min_tuple_datum (x := n) (xs := ns) (I.ok.hd F.calm) (show s.heap.IsTuple a its.toArray from pl) (PySem.W.HoldAll.of_ints rv.ints) (by have := F.hu; show X.A.units + 1 + 0 < cLine; omega) fun i v h' tk hi hh hk => ?_
      have ex : PySem.W.minOf n ns = ns.foldl min n := by
        unfold PySem.W.minOf
        congr 1
        funext a y
        show (if decide (y < a) = true then y else a) = min a y
        by_cases c : y < a
        · rw [if_pos (decide_eq_true c)]; omega
        · rw [if_neg (by simpa using c)]; omega
      rw [ex] at hh
      obtain ⟨bs, hr⟩ := hh
      cases hr
      exact ⟨.int _, H, I.kept hk, ⟨_, rfl⟩, q _ H L (.refl ok) (by simp [RE, Rv])⟩
theorem cs_sum [F : Fit z X] : CallR X (.builtin "sum") (rdC z (RE z) bSum) := by
  intro pins s σ H xs us Q I rx h
  obtain ⟨L, vs, t, r, ok, hv, e, q⟩ := h
  match vs, e with
  | [.lst ws], e =>
    simp only [bSum, Option.map_eq_some_iff] at e
    obtain ⟨ns, e1, rfl⟩ := e
    obtain ⟨y, rfl, h1⟩ := hv.one
    obtain ⟨a, ys, rfl, h2, h3⟩ := h1.lst
    have e3 := h3.intsOf e1
    subst e3
    exact cr_sum F.calm pins s σ H _ us Q I rx ⟨a, ns, rfl, .inl (.inl h2), q _ H L (.refl ok) (by simp [RE, Rv])⟩
theorem cs_all [F : Fit z X] : CallR X (.builtin "all") (rdC z (RE z) bAll) := by
  intro pins s σ H xs us Q I rx h
  obtain ⟨L, vs, t, r, ok, hv, e, q⟩ := h
  match vs, e with
  | [.lst ws], e =>
    simp only [bAll, Option.map_eq_some_iff] at e
    obtain ⟨ns, e1, rfl⟩ := e
    obtain ⟨y, rfl, h1⟩ := hv.one
    obtain ⟨a, ys, rfl, h2, h3⟩ := h1.lst
    have e3 := h3.boolsOf e1
    subst e3
    exact cr_all F.calm pins s σ H _ us Q I rx ⟨a, ns, rfl, .inl (.inl h2), q _ H L (.refl ok) (by simp [RE, Rv])⟩
theorem cs_any [F : Fit z X] : CallR X (.builtin "any") (rdC z (RE z) bAny) := by
  intro pins s σ H xs us Q I rx h
  obtain ⟨L, vs, t, r, ok, hv, e, q⟩ := h
  match vs, e with
  | [.lst ws], e =>
    simp only [bAny, Option.map_eq_some_iff] at e
    obtain ⟨ns, e1, rfl⟩ := e
    obtain ⟨y, rfl, h1⟩ := hv.one
    obtain ⟨a, ys, rfl, h2, h3⟩ := h1.lst
    have e3 := h3.boolsOf e1
    subst e3
    exact cr_any F.calm pins s σ H _ us Q I rx ⟨a, ns, rfl, .inl (.inl h2), q _ H L (.refl ok) (by simp [RE, Rv])⟩
theorem cs_int : CallR X (.type "int") (rdC z (RE z) bInt) := by
  intro pins s σ H xs us Q I rx h
  obtain ⟨L, vs, t, r, ok, hv, e, q⟩ := h
  match vs, e with
  | [.int i], e =>
    simp only [bInt, Option.some.injEq] at e; subst e
    obtain ⟨y, rfl, h1⟩ := hv.one
    cases h1.int
    exact call_int1 pins s σ H _ us Q I rx (.inl ⟨i, rfl, q _ H L (.refl ok) (by simp [RE, Rv])⟩)
  | [.bl i], e =>
    simp only [bInt, Option.some.injEq] at e; subst e
    obtain ⟨y, rfl, h1⟩ := hv.one
    cases h1.bl
    exact call_int1 pins s σ H _ us Q I rx (.inr ⟨i, rfl, q _ H L (.refl ok) (by simp [RE, Rv])⟩)
theorem cs_list [F : Fit z X] : CallR X (.type "list") (rdC z (RN z) bList) := by
  intro pins s σ H xs us Q I rx h
  obtain ⟨L, vs, t, r, ok, hv, e, q⟩ := h
  match vs, e with
  | [.tup ws], e =>
    simp only [bList, Option.some.injEq] at e; subst e
    obtain ⟨y, rfl, h1⟩ := hv.one
    obtain ⟨a, ys, rfl, h2, h3⟩ := h1.tup
    exact call_list_of pins s σ H _ us Q I rx ⟨a, ys, rfl, .inr (by rw [F.K]; exact h2), fun p hp => newN ok h3 q hp⟩
  | [.lst ws], e =>
    simp only [bList, Option.some.injEq] at e; subst e
    obtain ⟨y, rfl, h1⟩ := hv.one
    obtain ⟨a, ys, rfl, h2, h3⟩ := h1.lst
    exact call_list_of pins s σ H _ us Q I rx ⟨a, ys, rfl, .inl (.inl (.inl h2)), fun p hp => newN ok h3 q hp⟩
theorem cs_tuple [F : Fit z X] : CallR X (.type "tuple") (rdC z (RE z) bTuple) := by
  intro pins s σ H xs us Q I rx h
  obtain ⟨L, vs, t, r, ok, hv, e, q⟩ := h
  match vs, e with
  | [.tup ws], e =>
    simp only [bTuple, Option.some.injEq] at e; subst e
    obtain ⟨y, rfl, h1⟩ := hv.one
    obtain ⟨a, ys, rfl, h2, h3⟩ := h1.tup
    refine call_tuple_of pins s σ H _ us Q I rx ⟨a, ys, rfl, .inr ⟨by rw [F.K]; exact h2, ?_⟩⟩
    refine q _ H L (.refl ok) ?_
    simp only [RE, Rv]
    exact ⟨a, ys, rfl, h2, h3⟩
  | [.lst ws], e =>
    simp only [bTuple, Option.some.injEq] at e; subst e
    obtain ⟨y, rfl, h1⟩ := hv.one
    obtain ⟨a, ys, rfl, h2, h3⟩ := h1.lst
    exact call_tuple_of pins s σ H _ us Q I rx ⟨a, ys, rfl, .inl ⟨.inl (.inl h2), fun p hp => newT ok h3 q hp⟩⟩
theorem sortI_perm : ∀ l : List Int, (sortI l).Perm l
  | [] => .refl _
  | a :: l => by
    have hi : ∀ (r : List Int), (insI a r).Perm (a :: r) := by
      intro r
      induction r with
      | nil => exact .refl _
      | cons b r ih =>
        simp only [insI]
        split
        · exact .refl _
        · exact (List.Perm.cons b ih).trans (List.Perm.swap a b r)
    exact (hi (sortI l)).trans (List.Perm.cons a (sortI_perm l))
theorem insI_mem {a x : Int} : ∀ {r : List Int}, x ∈ insI a r → x = a ∨ x ∈ r
  | [], h => by simp [insI] at h; exact .inl h
  | b :: r, h => by
    simp only [insI] at h
    split at h
    · rcases List.mem_cons.mp h with h | h
      · exact .inl h
      · exact .inr h
    · rcases List.mem_cons.mp h with h | h
      · rw [h]; exact .inr List.mem_cons_self
      · rcases insI_mem h with h | h
        · exact .inl h
        · exact .inr (List.mem_cons_of_mem _ h)
theorem insI_sorted {a : Int} : ∀ {r : List Int}, r.Pairwise (· ≤ ·) → (insI a r).Pairwise (· ≤ ·)
  | [], _ => by simp [insI]
  | b :: r, h => by
    simp only [insI]
    have h' := List.pairwise_cons.mp h
    split
    · rename_i hab
      refine List.pairwise_cons.mpr ⟨fun x hx => ?_, h⟩
      rcases List.mem_cons.mp hx with hx | hx
      · rw [hx]; exact hab
      · exact Int.le_trans hab (h'.1 x hx)
    · rename_i hab
      refine List.pairwise_cons.mpr ⟨fun x hx => ?_, insI_sorted h'.2⟩
      rcases insI_mem hx with hx | hx
      · rw [hx]; omega
      · exact h'.1 x hx
theorem sortI_sorted : ∀ l : List Int, (sortI l).Pairwise (· ≤ ·)
  | [] => List.Pairwise.nil
  | a :: l => insI_sorted (sortI_sorted l)
theorem sorted_eq : ∀ {l m : List Int}, l.Perm m → l.Pairwise (· ≤ ·) → m.Pairwise (· ≤ ·) → l = m := by
  intro l m p h1 h2
  exact List.Perm.eq_of_pairwise (fun a b _ _ h h' => Int.le_antisymm h h') h1 h2 p
theorem cs_sorted [F : Fit z X] : CallR X (.builtin "sorted") (rdC z (RN z) fun vs => match vs with
    | [.lst xs] => (intsOf xs).map fun ns => .lst ((sortI ns).map .int)
    | _ => none) := by
  intro pins s σ H xs us Q I rx h
  obtain ⟨L, vs, t, r, ok, hv, e, q⟩ := h
  match vs, e with
  | [.lst ws], e =>
    simp only [Option.map_eq_some_iff] at e
    obtain ⟨ns, e1, rfl⟩ := e
    obtain ⟨y, rfl, h1⟩ := hv.one
    obtain ⟨a, ys, rfl, h2, h3⟩ := h1.lst
    have e3 := h3.intsOf e1
    subst e3
    refine cr_sortedI pins s σ H _ us Q I rx ⟨a, ns, rfl, .inl (.inl h2), fun ns' p hp hs hn => ?_⟩
    have e4 : ns' = sortI ns := sorted_eq (hp.trans (sortI_perm ns).symm) hs (sortI_sorted ns)
    rw [e4]
    exact newN ok (Rvs.ofInts _) q hn

/-! ### places -/
variable {f g : E} {b : Expr} {ea : Expr}
theorem ixOf_eq (n : Nat) (i : Int) : ixOf n i = ixN n i := rfl
theorem is_ix [F : Fit z X] : IxR X (rdOp z (RE z) oIx) := by
  intro value slice pins s σ H x y v u Q I rx ry h hs
  obtain ⟨L, v', w', t, r, ok, hv, hw, e, q⟩ := h
  cases v' <;> cases w' <;> simp only [oIx, reduceCtorEq] at e
  · rename_i xs i
    simp only [Option.bind_eq_some_iff] at e
    obtain ⟨j, e1, e2⟩ := e
    obtain ⟨a, us, rfl, h1, r1⟩ := hv.tup
    obtain ⟨y', e3, r2⟩ := r1.get e2
    refine ix_tup value slice pins s σ H _ y v u Q I rx ry ⟨a, us, i, y', rfl, hw.int, by rw [F.K]; exact h1, ?_, q _ H L (.refl ok) r2⟩ hs
    unfold atI
    rw [r1.len, ← ixOf_eq, e1]
    exact e3
  · rename_i xs i
    simp only [Option.bind_eq_some_iff] at e
    obtain ⟨j, e1, e2⟩ := e
    obtain ⟨a, us, rfl, h1, r1⟩ := hv.lst
    obtain ⟨y', e3, r2⟩ := r1.get e2
    refine ix_list value slice pins s σ H _ y v u Q I rx ry ⟨a, us, i, y', rfl, hw.int, .inl (.inl h1), ?_, q _ H L (.refl ok) r2⟩ hs
    unfold atI
    rw [r1.len, ← ixOf_eq, e1]
    exact e3
theorem xix [F : Fit z X] (ha : PE X ea (rd z W (RO z) f)) (hb : PE X b (rd z W (RO z) g)) (hs : PlainIx b := by exact fun _ _ => rfl) : PE X (.Subscript ea b pos) (rd z W (RE z) (eOp oIx f g)) :=
  (pe_ix is_ix ha hb hs).imp fun _ _ _ => rd_op RE.back
/-- tin[k] -/
theorem xtin [F : Fit z X] (i k : Nat) {y : PySem.Str} {p2 p3 : Pos} {j : Nat} (hN : X.N[i]? = some y := by rfl) (hv : Vis X.env.scope y := by first | exact Or.inl rfl | exact Or.inr (Or.inl rfl) | exact Or.inr (Or.inr rfl)) (hd : (y == ("__debug__" : PySem.Str)) = false := by decide)
    (hcd : (y == ("__classdict__" : PySem.Str)) = false := by decide) : PE X (.Subscript (.Name y p2) (.Constant (.int (k : Int)) j p3) pos) (rd z W (RE z) (eTin i k)) := by
  refine (pe_ix ix_list (pe_var hN hv hd hcd) pe_int (fun _ _ => rfl)).imp fun σ H Q h => ?_
  obtain ⟨L0, H0, t0, L, env, t, r, h⟩ := h
  simp only [eTin] at h
  cases e : env[i]? with
  | none => rw [e] at h; exact h.elim
  | some o =>
    rw [e] at h
    match o, e, h with
    | none, _, h => exact h.elim
    | some (true, v), _, h => exact h.elim
    | some (false, .tin), e, h =>
      obtain ⟨x, hx, hr⟩ := r.val i _ e
      simp only [Rv] at hr
      obtain ⟨a, hta, rfl⟩ := hr
      have hl := (r.ok.2 a hta).2
      match k, h with
      | 0, h => exact ⟨_, hx, a, [.int t.a, .int t.b, .int t.c], 0, .int t.a, rfl, rfl, .inl (.inl hl), rfl, h _ H L (.refl r.ok) (by simp [RE, Rv])⟩
      | 1, h => exact ⟨_, hx, a, [.int t.a, .int t.b, .int t.c], 1, .int t.b, rfl, rfl, .inl (.inl hl), rfl, h _ H L (.refl r.ok) (by simp [RE, Rv])⟩
      | 2, h => exact ⟨_, hx, a, [.int t.a, .int t.b, .int t.c], 2, .int t.c, rfl, rfl, .inl (.inl hl), rfl, h _ H L (.refl r.ok) (by simp [RE, Rv])⟩
      | k + 3, h => exact h.elim
    | some (false, .non), _, h => exact h.elim
    | some (false, .bl _), _, h => exact h.elim
    | some (false, .int _), _, h => exact h.elim
    | some (false, .str _), _, h => exact h.elim
    | some (false, .tup _), _, h => exact h.elim
    | some (false, .lst _), _, h => exact h.elim
    | some (false, .iset _), _, h => exact h.elim
    | some (false, .dct _), _, h => exact h.elim
    | some (false, .fn _), _, h => exact h.elim
/-! ### slices -/
def rdP (z : Cz) (W : Wx) (f : P) : TO := fun σ H Q => ∃ L0 H0 t0 L env t, RelS z L0 H0 t0 L env t σ H ∧ match f env t with
  | .ok o t' => ∀ H' L', Go z L H t L' H' t' → Q o H'
  | .exc k t' => ∀ H' L', Go z L H t L' H' t' → W k H'
  | .bad => False
theorem PO.imp {X : Cx} {e : Option Expr} {t t' : TO} (h : PO X e t) (i : ∀ σ H Q, t' σ H Q → t σ H Q) : PO X e t' := ⟨fun pins s σ H Q I q => h.run pins s σ H Q I (i σ H Q q)⟩
theorem xp_no : PO X none (rdP z W pNo) := PO.imp po_none fun σ H Q h => by
  obtain ⟨L0, H0, t0, L, env, t, r, h⟩ := h
  exact h H L (.refl r.ok)
theorem xp_at {pe : Expr} (h : PE X pe (rd z W (RO z) f)) : PO X (some pe) (rdP z W (pAt f)) := PO.imp (po_some h) fun σ H Q h => by
  obtain ⟨L0, H0, t0, L, env, t, r, h⟩ := h
  refine ⟨L0, H0, t0, L, env, t, r, ?_⟩
  simp only [pAt] at h
  cases e : f env t with
  | bad => rw [e] at h; exact h
  | exc k t' => rw [e] at h; exact h
  | ok v t1 =>
    rw [e] at h
    simp only [Res.bind_ok] at h
    intro x H1 L1 g1 rx
    cases v <;> first | exact h.elim | skip
    exact ⟨_, rx.int, h H1 L1 g1⟩
def rdS (z : Cz) (R : Rr) (op : Option Int → Option Int → Val → Option Val) : V → Option Int → Option Int → Hp → VK → Prop := fun x lo hi H Q => ∃ L v t r, Ok z L H t ∧ RO z L H L H v x ∧ op lo hi v = some r ∧ ∀ u H' L', Go z L H t L' H' t → R L H L' H' r u → Q u H'
theorem sIx_eq (n d : Nat) (o : Option Int) : slIx n d o = HT.sIx n d o := by cases o <;> rfl
theorem Rvs.cut {vs : List Val} {ys : List V} (h : Rvs z L H vs ys) (lo hi : Option Int) : Rvs z L H (Nf.cut vs lo hi) (cutV ys lo hi) := by
  unfold Nf.cut cutV
  rw [sIx_eq, sIx_eq, h.len]
  exact (h.drop _).take _
theorem ss_sl [F : Fit z X] : SlR X (rdS z (RE z) oSl) := by
  intro pins s σ H x v vl vu lo hi sl Q I rx hs pl pu h
  obtain ⟨L, v', t, r, ok, hv, e, q⟩ := h
  cases v' <;> simp only [oSl, reduceCtorEq, Option.some.injEq] at e
  · rename_i xs
    subst e
    obtain ⟨a, us, rfl, h1, r1⟩ := hv.tup
    refine sl_tupA pins s σ H _ v vl vu lo hi sl Q I rx hs pl pu ⟨a, us, rfl, by rw [F.K]; exact h1, fun hw => ?_, fun _ p hp => newT ok (r1.cut lo hi) q hp⟩
    refine q _ H L (.refl ok) ?_
    simp only [RE, Rv]
    refine ⟨a, us, rfl, h1, ?_⟩
    have e1 : Nf.cut xs lo hi = xs := by
      unfold Nf.cut
      rw [sIx_eq, sIx_eq, ← r1.len, hw.1, hw.2]
      rw [r1.len]
      simp
    rw [e1]; exact r1
  · rename_i xs
    subst e
    obtain ⟨a, us, rfl, h1, r1⟩ := hv.lst
    exact sl_list pins s σ H _ v vl vu lo hi sl Q I rx hs pl pu ⟨a, us, rfl, .inl (.inl h1), fun p hp => newL ok (r1.cut lo hi) q hp⟩
  · rename_i ns
    subst e
    rcases hv with hv | ⟨_, _, _, e, _⟩
    case inr => cases e
    simp only [Rv] at hv
    obtain ⟨a, rfl, h1⟩ := hv
    have h1 : SqL X.K H a (ns.map V.int) := by
      rcases h1 with ⟨ob, h1⟩ | h1
      · exact .inl (.inr ⟨ob, h1⟩)
      · rcases h1 with (h1 | ⟨_, h1⟩) | h1
        · cases h1
        · cases h1
        · rw [F.K]; exact .inr h1
    exact sl_list pins s σ H _ v vl vu lo hi sl Q I rx hs pl pu ⟨a, ns.map V.int, rfl, h1, fun p hp => newL ok ((Rvs.ofInts ns).cut lo hi) q hp⟩
theorem xsl [F : Fit z X] {lo hi : Option Expr} {pl ph : P} {p2 : Pos} (ha : PE X ea (rd z W (RO z) f)) (hl : PO X lo (rdP z W pl)) (hh : PO X hi (rdP z W ph)) : PE X (.Subscript ea (.Slice lo hi none p2) pos) (rd z W (RE z) (eSl f pl ph)) := by
  refine (pe_slice (ss_sl (z := z)) ha hl hh).imp fun σ H Q h => ?_
  obtain ⟨L0, H0, t0, L, env, t, r, h⟩ := h
  refine ⟨L0, H0, t0, L, env, t, r, ?_⟩
  simp only [eSl] at h
  cases e : f env t with
  | bad => rw [e] at h; exact h
  | exc k t' => rw [e] at h; exact h
  | ok v t1 =>
    rw [e] at h
    simp only [Res.bind_ok] at h
    intro x H1 L1 g1 rx
    refine ⟨L0, H0, t0, L1, env, t1, r.go g1, ?_⟩
    cases e2 : pl env t1 with
    | bad => rw [e2] at h; exact h
    | exc k t' => rw [e2] at h; exact fun H' L' g2 => h H' L' (g1.trans g2)
    | ok a t2 =>
      rw [e2] at h
      simp only [Res.bind_ok] at h
      intro H2 L2 g2
      refine ⟨L0, H0, t0, L2, env, t2, (r.go g1).go g2, ?_⟩
      cases e3 : ph env t2 with
      | bad => rw [e3] at h; exact h
      | exc k t' => rw [e3] at h; exact fun H' L' g3 => h H' L' (g1.trans (g2.trans g3))
      | ok b t3 =>
        rw [e3] at h
        simp only [Res.bind_ok] at h
        intro H3 L3 g3
        cases e4 : oSl a b v with
        | none => rw [e4] at h; exact h.elim
        | some q =>
          rw [e4] at h
          exact ⟨L3, v, t3, q, g3.ok, RO.go (g2.trans g3) rx, e4, fun u H' L' g4 ru => h u H' L' (g1.trans (g2.trans (g3.trans g4))) ru⟩
theorem xrev [F : Fit z X] {k : Nat} {p1 p2 p3 : Pos} (ha : PE X ea (rd z W (RO z) f)) : PE X (.Subscript ea (.Slice none none (some (.UnaryOp .USub (.Constant (.int 1) k p1) p2)) p3) pos) (rd z W (RE z) (eUn oRev f)) := by
  refine (pe_revA ha).imp fun σ H Q h => ?_
  obtain ⟨L0, H0, t0, L, env, t, r, h⟩ := h
  refine ⟨L0, H0, t0, L, env, t, r, ?_⟩
  simp only [eUn] at h
  cases e : f env t with
  | bad => rw [e] at h; exact h
  | exc k t' => rw [e] at h; exact h
  | ok v t1 =>
    rw [e] at h
    simp only [Res.bind_ok] at h
    intro x H1 L1 g1 rx
    cases v <;> simp only [oRev] at h <;> try exact h.elim
    · obtain ⟨a, us, rfl, h1, r1⟩ := rx.tup
      exact ⟨a, us, rfl, .inr ⟨by rw [F.K]; exact h1, fun p hp => newT g1.ok r1.reverse (fun u H' L' g ru => h u H' L' (g1.trans g) ru) hp⟩⟩
    · obtain ⟨a, us, rfl, h1, r1⟩ := rx.lst
      exact ⟨a, us, rfl, .inl ⟨.inl (.inl h1), fun p hp => newL g1.ok r1.reverse (fun u H' L' g ru => h u H' L' (g1.trans g) ru) hp⟩⟩
/-! ### is None, in -/
theorem os_isN : OpR X (compareOp .Is) (rdOp z (RE z) oIsN) := by
  intro pins s σ H x y v u Q I rx ry h
  obtain ⟨L, v', w', t, r, ok, hv, hw, e, q⟩ := h
  cases w' <;> simp only [oIsN, reduceCtorEq] at e
  simp only [cIsN, Option.some.injEq] at e; subst e
  refine op_isN pins s σ H x y v u Q I rx ry ⟨hw.non, ?_⟩
  have hb : decide (x = V.non) = v'.isNon := by
    cases v' <;> simp only [Val.isNon]
    · cases hv.non; exact decide_eq_true rfl
    · cases hv.bl; exact decide_eq_false (fun z => nomatch z)
    · cases hv.int; exact decide_eq_false (fun z => nomatch z)
    · cases hv.str; exact decide_eq_false (fun z => nomatch z)
    · obtain ⟨a, _, rfl, _⟩ := hv.tup; exact decide_eq_false (fun z => nomatch z)
    · obtain ⟨a, _, rfl, _⟩ := hv.lst; exact decide_eq_false (fun z => nomatch z)
    · rcases hv with h | ⟨_, _, _, h, _⟩
      · simp only [Rv] at h
      · cases h
    · rcases hv with h | ⟨_, _, _, h, _⟩
      · simp only [Rv] at h
      · cases h
    · rcases hv with h | ⟨_, _, _, h, _⟩
      · simp only [Rv] at h; obtain ⟨a, _, rfl⟩ := h; exact decide_eq_false (fun z => nomatch z)
      · cases h
    · rcases hv with h | ⟨_, _, _, h, _⟩
      · simp only [Rv] at h; subst h; exact decide_eq_false (fun z => nomatch z)
      · cases h
    · rcases hv with h | ⟨_, _, _, h, _⟩
      · simp only [Rv] at h; obtain ⟨a, rfl, _⟩ := h; exact decide_eq_false (fun z => nomatch z)
      · cases h
  rw [hb]
  exact q _ H L (.refl ok) (by simp [RE, Rv])
end
end Nf

namespace PySem
open Sem (wp)
open AutoSeq1 (wpAny_loadPart')
theorem meets_enumerate_newT (l : Addr) (items : Array Value) (n : Nat) (dct : Option Addr) (sl : Array (Option Value)) :
    Meets (Builtin.«enumerate.__new__» ⟨[.type "enumerate", .ref l], []⟩) (fun _ R s => s.heap.get? l = some { cls := .type "tuple", dict := dct, data := .seq items n, slots := sl } ∧
      R (.ok (.ret (.ref (s.heap.push { cls := .type "tuple_iterator", data := .fields #[.ref l, .int 0 0] }).objs.size)))
        { s with heap := (s.heap.push { cls := .type "tuple_iterator", data := .fields #[.ref l, .int 0 0] }).push { cls := .type "enumerate", data := .fields #[.none, .bool false, .ref s.heap.objs.size, rawInt 0, .none, .none] } }) :=
  .of_wp fun prog w A R s h => by
    obtain ⟨hp, g, d, tk, os⟩ := s; obtain ⟨hl, h⟩ := h
    have hsub := sub_enumerate
    have hL : Heap.IsTuple (Shared.heap ⟨hp, g, d, tk, os⟩) l items := ⟨_, hl, rfl, n, rfl⟩
    wp_walk using wpAny_loadPart' hl
    refine wpAny_stack_any fun st => wpAny_pure ?_
    split
    · rename_i c _ _ _ _ _
      cases (c == Value.type "enumerate")
      · wp_walk using wpAny_loadPart' hl, wpAny_pyIter_tuple hL
        exact ⟨_, rfl, h⟩
      · wp_walk using wpAny_loadPart' hl, wpAny_pyIter_tuple hL
        exact ⟨_, rfl, h⟩
    · wp_walk using wpAny_loadPart' hl, wpAny_pyIter_tuple hL
      exact ⟨_, rfl, h⟩
section
variable {prog : Program} {w : World} {A : Around} {E : Value → Shared → Prop} {s : Shared}
theorem call_enumerate_tuple {l : Addr} {items : Array Value} {Q : Value → Shared → Prop} (hL : s.heap.IsTuple l items)
    (h : ∀ h', IsEnum h' (s.heap.objs.size + 1) s.heap.objs.size 0 .none → h'.get? s.heap.objs.size = some { cls := .type "tuple_iterator", data := .fields #[.ref l, .int 0 0] } → h'.objs.size = s.heap.objs.size + 2 →
      (∀ b o, s.heap.get? b = some o → h'.get? b = some o) → Q (.ref (s.heap.objs.size + 1)) { s with heap := h' }) :
    wpAny (model prog w) A (call (.type "enumerate") [.ref l]) Q E s := by
  obtain ⟨⟨c, dct, dt, sl⟩, hl, hc, n, hd⟩ := hL
  replace hc : c = .type "tuple" := hc
  replace hd : dt = .seq items n := hd
  subst hc hd
  refine callType_new F.called_enumerate (by decide) (F.typeCall_enumerate_1 _) (F.newCall_enumerate_1 _) (fun obj => F.args_object_init_2 obj _) F.entry_enumerate_new
    (meets_enumerate_newT l items n dct sl) ⟨hl, ?_⟩
  have hz : (s.heap.push { cls := .type "tuple_iterator", data := .fields #[.ref l, .int 0 0] }).objs.size = s.heap.objs.size + 1 := Heap.size_push ..
  show _ ∧ _
  rw [hz]
  have he : IsEnum ((s.heap.push { cls := .type "tuple_iterator", data := .fields #[.ref l, .int 0 0] }).push
      { cls := .type "enumerate", data := .fields #[.none, .bool false, .ref s.heap.objs.size, rawInt 0, .none, .none] }) (s.heap.objs.size + 1) s.heap.objs.size 0 .none := by
    have := Heap.get?_push_size (s.heap.push { cls := .type "tuple_iterator", data := .fields #[.ref l, .int 0 0] })
      (o := { cls := .type "enumerate", data := .fields #[.none, .bool false, .ref s.heap.objs.size, rawInt 0, .none, .none] }) rfl
    rw [hz] at this; exact this
  refine ⟨⟨_, he, rfl⟩, h _ he (Heap.get?_push_of_some _ (Heap.get?_push_size _ rfl)) (by rw [Heap.size_push, hz]) fun b o x => Heap.get?_push_of_some _ (Heap.get?_push_of_some _ x)⟩
end
end PySem
namespace L2
open PySem PySem.Spec PyProof.Rows
def IteT (K : PySem.W.Frag) (a : Addr) : It :=
  ⟨fun i H => ∃ (xs : List V) (x : V), SqT K H a xs ∧ xs[i]? = some x, fun i H v H' => ∃ T x, v = .ref T ∧ H T = none ∧ H' = upd H T (.tup [.int (i : Nat), x]) ∧ ∀ xs, SqT K H a xs → xs[i]? = some x, fun i H => ∃ xs : List V, SqT K H a xs ∧ xs.length ≤ i⟩
theorem turn_enumT {P : Program} {w : World} {K : PySem.W.Frag} {elts : List PySem.Expr} {kk : Nat} {tpos : Pos} (a e it : Addr) :
    Turn P w K (.Tuple elts kk tpos) (IteT K a) [e, it] e (fun i h => (∃ old, IsEnum h e it ((i : Nat) : Int) old) ∧ h.IsTupleIter it a i ∧ e ≠ it ∧ a ≠ it ∧ e ≠ a) where
  mem := by simp
  obj := fun i h st b hb => by
    obtain ⟨⟨old, he⟩, ⟨o, ho, hc, hd⟩, _⟩ := st
    have e' : b = e ∨ b = it := by simpa using hb
    rcases e' with z | z
    · rw [z]; exact ⟨_, he, fun v q => nomatch q⟩
    · rw [z]; exact ⟨o, ho, fun v q => by rw [hd] at q; cases q⟩
  keep := fun i h h' st k => let ⟨⟨old, he⟩, hi, hne⟩ := st; ⟨⟨old, k e (by simp) _ he⟩, hi.at fun o q => k it (by simp) o q, hne⟩
  item := by
    intro X hP hw hK hc i pins s σ H E I hf st hg
    subst hP hw hK
    obtain ⟨⟨old, he⟩, hit, hne, hai, hea⟩ := st
    obtain ⟨xs, x, hq, hx⟩ := hg
    obtain ⟨its, rv, p, hz⟩ := I.tuple hq
    obtain ⟨u, hu, ru⟩ := rv.get hx
    have hel : e < s.heap.objs.size := Heap.lt_size he
    have hil : it < s.heap.objs.size := by obtain ⟨_, q, _⟩ := hit; exact Heap.lt_size q
    have hlt : i < its.toArray.size := by
      rw [List.size_toArray]
      exact (List.getElem?_eq_some_iff.mp hu).1
    refine wpAny_pyNext_enum_itemD (Draws.tuple (show X.A.in1.handled = none from I.ok.hd hc) it a hai its.toArray) he ⟨hit, show s.heap.IsTuple a its.toArray from p⟩ hlt hne (by simp [hne, hea]) fun v h' tk hv ho hit' hT hsz hk => ?_
    have hv' : v = u := by
      have : its.toArray[i]? = some v := hv
      rw [List.getElem?_toArray, hu] at this
      exact (Option.some.inj this).symm
    subst hv'
    refine ⟨_, rfl, wpAny_letOwnedTupleGo_enum (s := { s with heap := h', toks := tk + 1 }) ho fun h'' he' sb => ?_⟩
    have hT2 : h''.get? s.heap.objs.size = some { cls := .type "tuple", data := .seq #[.int i tk, v] } := (sb.2 _ (Nat.ne_of_gt hel)).trans hT
    have new : ObjOk X.prog X.w (upd H s.heap.objs.size (.tup [.int (i : Nat), x])) h'' s.heap.objs.size (.tup [.int (i : Nat), x]) :=
      ⟨by show 2 ≤ sizeLine; decide, [.int i tk, v], .cons ⟨_, rfl⟩ (.cons ru .nil), ⟨_, hT2, rfl, _, rfl⟩⟩
    have I1 : Inv X pins σ (upd H s.heap.objs.size (.tup [.int (i : Nat), x])) { s with heap := h'', toks := tk + 1 } :=
      I.turnedNew (ch := [e, it]) (fun b ob hb q => (sb.2 b (fun z => hb (by simp [z]))).trans (hk b ob (fun z => hb (by simp [z])) (fun z => hb (by simp [z])) q)) hf (Nat.le_refl _) new
    refine ⟨.ref s.heap.objs.size, _, I1, rfl, ⟨_, x, rfl, I.hok.fresh (Nat.le_refl _), rfl, fun ys hy => by rw [I.tuple_inj hy hq]; exact hx⟩, ⟨⟨v, ?_⟩, hit'.1.at fun o q => (sb.2 it (Ne.symm hne)).trans q, hne, hai, hea⟩, fun b hb => ?_⟩
    · have e1 : ((i + 1 : Nat) : Int) = (i : Int) + 1 := by omega
      rw [e1]; exact he'
    · have hb' : b < s.heap.objs.size := by
        have e' : b = e ∨ b = it := by simpa using hb
        rcases e' with z | z
        · rw [z]; exact hel
        · rw [z]; exact hil
      rw [upd_ne (Nat.ne_of_lt hb')]
      exact (hf b hb).1
  done := by
    intro X hP hw hK hc i pins s σ H E I hf st hg
    subst hP hw hK
    obtain ⟨⟨old, he⟩, hit, hne, hai, hea⟩ := st
    obtain ⟨xs, hq, hx⟩ := hg
    obtain ⟨its, rv, p, hz⟩ := I.tuple hq
    obtain ⟨f0, f1, f2, f3, f4, f5⟩ := hf it (by simp)
    have hl := rv.length
    have hh : X.A.in1.handled = none := I.ok.hd hc
    have hT : s.TypeIs (.ref e) "enumerate" := ⟨_, he, rfl⟩
    unfold pyNext
    refine wpAny_bind (wpAny_attempt (wpAny_callSpecial?_slot (name := Str.ofString "__next__") hT F.slot_enumerate_next
      (wpAny_call_entry F.slot_enumerate_next hT F.entry_enumerate_next ?_ (F.args_enumerate_next_1 _))))
    show wpAny _ _ (field (.ref e) 2 >>= _) _ _ _
    refine wpAny_bind (wpAny_field he rfl (x := .ref it) rfl ?_)
    refine wpAny_bind (wpAny_nextOf_tuple_end hh hit (show s.heap.IsTuple a its.toArray from p) (by rw [List.getElem?_toArray]; exact List.getElem?_eq_none_iff.mpr (by omega)) fun h' x he' hx' => ?_)
    obtain ⟨o, ho, hc⟩ := hx'
    refine wpAny_bind (wpAny_isInstance (T := "StopIteration") (b := true) ⟨o, ho, hc⟩ isSubtype_stop ?_)
    exact wpAny_pure ⟨rfl, I.turned (t' := s.toks) (fun b o hb q => he' b o hb q) f0 f1 f3 f4 f5⟩
  self := fun A i s Q E st h => let ⟨⟨_, he⟩, _⟩ := st; wpAny_pyIter_enum he h
def iEnumA (K : PySem.W.Frag) (ta : TA) : TI := fun σ H R => ta σ H fun vs H1 => ∃ a xs, vs = [.ref a] ∧ ((SqL K H1 a xs ∧ R (Ite K a) H1) ∨ (SqT K H1 a xs ∧ R (IteT K a) H1))
theorem pi_enumA {X : Cx} {e : PySem.Expr} {ta : TA} {p pos tpos : Pos} {elts : List PySem.Expr} {kk : Nat} (hg : Gl X "enumerate") (hm : X.mg "enumerate" = none) (ha : PA X [e] ta) (hs : starEach [e] X.env = [(false, eval e X.env)] := by rfl) :
    PI X (.Tuple elts kk tpos) (.Call (.Name "enumerate" p) [e] [] pos) (iEnumA X.K ta) := by
  refine ⟨fun pins s σ H R I h => ?_⟩
  refine Call_ (ld_blt I hg hm boot_enumerate (PyProof.Rows.callWith_type1 (thn (ha.run pos pins s σ H _ I h) fun us s1 ⟨vs, H1, I1, r1, q1⟩ => ?_) hs rfl))
  obtain ⟨a, xs, ex, q1⟩ := q1
  subst ex
  cases r1 with
  | cons r rr =>
    cases rr
    cases r
    have fresh2 : ∀ b, b ∈ [s1.heap.objs.size + 1, s1.heap.objs.size] → FpOk X pins H1 b := fun b hb => by
      have e' : b = s1.heap.objs.size + 1 ∨ b = s1.heap.objs.size := by simpa using hb
      have hle : s1.heap.objs.size ≤ b := by
        rcases e' with z | z
        · rw [z]; exact Nat.le_add_right _ _
        · rw [z]; exact Nat.le_refl _
      exact I1.fpOk hle (I1.hok.fresh hle)
    rcases q1 with ⟨hq, q⟩ | ⟨hq, q⟩
    · obtain ⟨its, rv, p', hz⟩ := I1.list hq
      refine call_enumerate_list p'.isList fun h' he hit hsz hk => wpAny_pyIter_enum he ?_
      have I2 : Inv X pins σ H1 { s1 with heap := h' } := I1.kept (t' := s1.toks) hk
      exact ⟨s1.heap.objs.size + 1, [s1.heap.objs.size + 1, s1.heap.objs.size], _, _, H1, rfl, I2, turn_enum a (s1.heap.objs.size + 1) s1.heap.objs.size, ⟨⟨.none, he⟩, hit, Nat.succ_ne_self _⟩, fresh2, q⟩
    · obtain ⟨its, rv, p', hz⟩ := I1.tuple hq
      have ht : s1.heap.IsTuple a its.toArray := p'
      have hal : a < s1.heap.objs.size := by obtain ⟨_, q, _⟩ := ht; exact Heap.lt_size q
      refine call_enumerate_tuple ht fun h' he hit hsz hk => wpAny_pyIter_enum he ?_
      have I2 : Inv X pins σ H1 { s1 with heap := h' } := I1.kept (t' := s1.toks) hk
      exact ⟨s1.heap.objs.size + 1, [s1.heap.objs.size + 1, s1.heap.objs.size], _, _, H1, rfl, I2, turn_enumT a (s1.heap.objs.size + 1) s1.heap.objs.size, ⟨⟨.none, he⟩, ⟨_, hit, rfl, rfl⟩, Nat.succ_ne_self _, Nat.ne_of_lt hal, Nat.ne_of_gt (Nat.lt_succ_of_lt hal)⟩, fresh2, q⟩
end L2

namespace L2
open PySem PySem.Spec PyProof.Rows
def iSeqA (K : PySem.W.Frag) (tl : TE) : TI := fun σ H R => tl σ H fun x H1 => ∃ a, x = .ref a ∧ (((∃ xs, SqL K H1 a xs) ∧ R (Itl K a) H1) ∨ ((∃ xs, SqT K H1 a xs) ∧ R (Itt K a) H1))
theorem pi_seqA {X : Cx} {tg l : PySem.Expr} {tl : TE} (hl : PE X l tl) : PI X tg l (iSeqA X.K tl) := by
  refine ⟨fun pins s σ H R I h => ?_⟩
  refine thn (hl.run pins s σ H _ I h) fun v s1 ⟨x, H1, I1, r1, q1⟩ => ?_
  obtain ⟨a, e, q1⟩ := q1
  subst e
  cases r1
  have fr : ∀ b, b ∈ [s1.heap.objs.size] → FpOk X pins H1 b := fun b hb => by
    have e : b = s1.heap.objs.size := by simpa using hb
    subst e
    exact I1.fpOk (Nat.le_refl _) (I1.hok.fresh (Nat.le_refl _))
  rcases q1 with ⟨⟨xs, hq⟩, q⟩ | ⟨⟨xs, hq⟩, q⟩
  · obtain ⟨its, rv, p, hz⟩ := I1.list hq
    refine wpAny_pyIter_list p.isList ?_
    exact ⟨s1.heap.objs.size, [s1.heap.objs.size], _, _, H1, rfl, I1.kept (t' := s1.toks) fun b o e => Heap.get?_push_of_some _ e, turn_list a _, ⟨_, Heap.get?_push_size _ rfl, rfl, rfl⟩, fr, q⟩
  · obtain ⟨its, rv, p, hz⟩ := I1.tuple hq
    refine wpAny_pyIter_tuple (show s1.heap.IsTuple a its.toArray from p) ?_
    exact ⟨s1.heap.objs.size, [s1.heap.objs.size], _, _, H1, rfl, I1.kept (t' := s1.toks) fun b o e => Heap.get?_push_of_some _ e, turn_tuple a _, ⟨_, Heap.get?_push_size _ rfl, rfl, rfl⟩, fr, q⟩
end L2
namespace Nf
open PySem PySem.Spec PyProof.Rows L2
section
variable {z : Cz} {W : Wx} {X : Cx} {L : Lk} {H : Hp} {t : Tin} {R : Rr}

/-! ### what is walked -/
abbrev Pw : Type := Lk → Hp → Tin → Prop
def Walks (z : Cz) (P : Pw) (J : L2.It) (xs : List Val) : Prop := ∀ (i : Nat) (L : Lk) (H : Hp) (t : Tin), Ok z L H t → P L H t →
  (∀ v, xs[i]? = some v → J.go i H ∧ ∀ x H', J.yld i H x H' → ∃ L', Go z L H t L' H' t ∧ Rv z L' H' v x) ∧ (xs.length ≤ i → J.stop i H)
theorem Walks.weak {P P' : Pw} {J : L2.It} {xs : List Val} (h : Walks z P J xs) (i : ∀ L H t, P' L H t → P L H t) : Walks z P' J xs := fun k L H t ok p => h k L H t ok (i L H t p)
/-- a for walks it: what is locked stays -/
def rdI (z : Cz) (W : Wx) (it : Nf.It) : TI := fun σ H Q => ∃ L0 H0 t0 L env t, RelS z L0 H0 t0 L env t σ H ∧ match it env t with
  | .ok xs t' => ∀ J H' L', Go z L H t L' H' t' → Walks z (fun L2 H2 _ => Keep L' H' L2 H2) J xs → Q J H'
  | .exc k t' => ∀ H' L', Go z L H t L' H' t' → W k H'
  | .bad => False
/-- a comprehension walks it: all stays -/
def rdIG (z : Cz) (W : Wx) (it : Nf.It) : TI := fun σ H Q => ∃ L0 H0 t0 L env t, RelS z L0 H0 t0 L env t σ H ∧ match it env t with
  | .ok xs t' => ∀ J H' L', Go z L H t L' H' t' → Walks z (fun L2 H2 t2 => Go z L' H' t' L2 H2 t2) J xs → Q J H'
  | .exc k t' => ∀ H' L', Go z L H t L' H' t' → W k H'
  | .bad => False
theorem xiG {tg e : Expr} {it : Nf.It} (h : PI X tg e (rdI z W it)) : PI X tg e (rdIG z W it) := h.imp fun σ H Q h => by
  obtain ⟨L0, H0, t0, L, env, t, r, h⟩ := h
  refine ⟨L0, H0, t0, L, env, t, r, ?_⟩
  cases e : it env t with
  | bad => rw [e] at h; exact h
  | exc k t' => rw [e] at h; exact h
  | ok xs t' =>
    rw [e] at h
    exact fun J H' L' g w => h J H' L' g (w.weak fun _ _ _ g => g.keep)
theorem walks_list {K : PySem.W.Frag} {P : Pw} {a : Addr} {vs : List Val} {ys : List V} {L1 : Lk} {H1 : Hp} (r : Rvs z L1 H1 vs ys) (hP : ∀ L H t, Ok z L H t → P L H t → H a = some (.lst ys) ∧ Keep L1 H1 L H) : Walks z P (Itl K a) vs := fun i L H t ok p => by
  obtain ⟨ha, k⟩ := hP L H t ok p
  refine ⟨fun v hv => ?_, fun hi => ⟨ys, .inl (.inl ha), by rw [r.len]; exact hi⟩⟩
  obtain ⟨y, hy, ry⟩ := r.get hv
  refine ⟨⟨ys, y, .inl (.inl ha), hy⟩, fun x H' hx => ?_⟩
  obtain ⟨rfl, hx⟩ := hx
  have := hx ys (.inl (.inl ha))
  rw [hy] at this
  cases this
  exact ⟨L, .refl ok, Rv.keep k v ry⟩
theorem walks_tup {P : Pw} {a : Addr} {vs : List Val} {ys : List V} {L1 : Lk} {H1 : Hp} (r : Rvs z L1 H1 vs ys) (hP : ∀ L H t, Ok z L H t → P L H t → SqT z.K H a ys ∧ Keep L1 H1 L H) : Walks z P (Itt z.K a) vs := fun i L H t ok p => by
  obtain ⟨ha, k⟩ := hP L H t ok p
  refine ⟨fun v hv => ?_, fun hi => ⟨ys, ha, by rw [r.len]; exact hi⟩⟩
  obtain ⟨y, hy, ry⟩ := r.get hv
  refine ⟨⟨ys, y, ha, hy⟩, fun x H' hx => ?_⟩
  obtain ⟨rfl, hx⟩ := hx
  have := hx ys ha
  rw [hy] at this
  cases this
  exact ⟨L, .refl ok, Rv.keep k v ry⟩
theorem walks_range {P : Pw} {lo : Int} {hi : Int} : Walks z P (Itr lo (hi - lo).toNat) (rangeL lo hi) := fun i L H t ok p => by
  refine ⟨fun v hv => ?_, fun h => by show (hi - lo).toNat ≤ i; rw [rangeL, List.length_map, List.length_range] at h; exact h⟩
  simp only [rangeL, List.getElem?_map, Option.map_eq_some_iff] at hv
  obtain ⟨k, hk, rfl⟩ := hv
  rw [List.getElem?_eq_some_iff] at hk
  obtain ⟨hlt, hk⟩ := hk
  rw [List.getElem_range] at hk
  subst hk
  rw [List.length_range] at hlt
  refine ⟨hlt, fun x H' hx => ?_⟩
  obtain ⟨rfl, rfl⟩ := hx
  exact ⟨L, .refl ok, by simp [Rv]⟩
/-- a pair made on the way -/
theorem pair_ok {L : Lk} {H : Hp} {t : Tin} {v w : Val} {x y : V} {T : Addr} (ok : Ok z L H t) (rv : Rv z L H v x) (rw' : Rv z L H w y) (hT : H T = none) : ∃ L', Go z L H t L' (upd H T (.tup [x, y])) t ∧ Rv z L' (upd H T (.tup [x, y])) (.tup [v, w]) (.ref T) := by
  have g := Go.upd (o := .tup [x, y]) ok hT
  refine ⟨L, g, ?_⟩
  simp only [Rv]
  exact ⟨T, [x, y], rfl, .inl (.inl upd_same), Rvs.cons (Rv.keep g.keep v rv) (Rvs.cons (Rv.keep g.keep w rw') Rvs.nil)⟩
theorem enumL_get {xs : List Val} {i : Nat} {v : Val} (h : (enumL xs)[i]? = some v) : ∃ w, xs[i]? = some w ∧ v = .tup [.int i, w] := by
  simp only [enumL, List.getElem?_map, Option.map_eq_some_iff, List.getElem?_zipIdx] at h
  obtain ⟨p, ⟨w, hw, rfl⟩, rfl⟩ := h
  exact ⟨w, hw, by simp⟩
theorem enumL_len (xs : List Val) : (enumL xs).length = xs.length := by simp [enumL]
theorem walks_enumL {K : PySem.W.Frag} {P : Pw} {a : Addr} {vs : List Val} {ys : List V} {L1 : Lk} {H1 : Hp} (r : Rvs z L1 H1 vs ys) (hP : ∀ L H t, Ok z L H t → P L H t → H a = some (.lst ys) ∧ Keep L1 H1 L H) : Walks z P (Ite K a) (enumL vs) := fun i L H t ok p => by
  obtain ⟨ha, k⟩ := hP L H t ok p
  refine ⟨fun v hv => ?_, fun hi => ⟨ys, .inl (.inl ha), by rw [r.len, ← enumL_len]; exact hi⟩⟩
  obtain ⟨w, hw, rfl⟩ := enumL_get hv
  obtain ⟨y, hy, ry⟩ := r.get hw
  refine ⟨⟨ys, y, .inl (.inl ha), hy⟩, fun x H' hx => ?_⟩
  obtain ⟨T, x1, rfl, hT, rfl, hx⟩ := hx
  have := hx ys (.inl (.inl ha))
  rw [hy] at this
  cases this
  exact pair_ok ok (by simp [Rv]) (Rv.keep k w ry) hT
theorem walks_enumT {P : Pw} {a : Addr} {vs : List Val} {ys : List V} {L1 : Lk} {H1 : Hp} (r : Rvs z L1 H1 vs ys) (hP : ∀ L H t, Ok z L H t → P L H t → SqT z.K H a ys ∧ Keep L1 H1 L H) : Walks z P (IteT z.K a) (enumL vs) := fun i L H t ok p => by
  obtain ⟨ha, k⟩ := hP L H t ok p
  refine ⟨fun v hv => ?_, fun hi => ⟨ys, ha, by rw [r.len, ← enumL_len]; exact hi⟩⟩
  obtain ⟨w, hw, rfl⟩ := enumL_get hv
  obtain ⟨y, hy, ry⟩ := r.get hw
  refine ⟨⟨ys, y, ha, hy⟩, fun x H' hx => ?_⟩
  obtain ⟨T, x1, rfl, hT, rfl, hx⟩ := hx
  have := hx ys ha
  rw [hy] at this
  cases this
  exact pair_ok ok (by simp [Rv]) (Rv.keep k w ry) hT
theorem zipL_get {xs ys : List Val} {i : Nat} {v : Val} (h : (zipL xs ys)[i]? = some v) : ∃ a b, xs[i]? = some a ∧ ys[i]? = some b ∧ v = .tup [a, b] := by
  simp only [zipL, List.getElem?_zipWith] at h
  cases h1 : xs[i]? <;> cases h2 : ys[i]? <;> rw [h1, h2] at h <;> simp at h
  exact ⟨_, _, rfl, rfl, h.symm⟩
theorem zipL_len (xs ys : List Val) : (zipL xs ys).length = min xs.length ys.length := by simp [zipL]
theorem walks_zipL {K : PySem.W.Frag} {P : Pw} {a b : Addr} {vs ws : List Val} {ys us : List V} {L1 : Lk} {H1 : Hp} (r : Rvs z L1 H1 vs ys) (r2 : Rvs z L1 H1 ws us) (hP : ∀ L H t, Ok z L H t → P L H t → H a = some (.lst ys) ∧ H b = some (.lst us) ∧ Keep L1 H1 L H) : Walks z P (Itz K a b) (zipL vs ws) := fun i L H t ok p => by
  obtain ⟨ha, hb, k⟩ := hP L H t ok p
  refine ⟨fun v hv => ?_, fun hi => ⟨ys, us, .inl (.inl ha), .inl (.inl hb), by rw [r.len, r2.len]; rw [zipL_len] at hi; omega⟩⟩
  obtain ⟨v1, v2, h1, h2, rfl⟩ := zipL_get hv
  obtain ⟨y, hy, ry⟩ := r.get h1
  obtain ⟨u, hu, ru⟩ := r2.get h2
  refine ⟨⟨ys, us, y, u, .inl (.inl ha), .inl (.inl hb), hy, hu⟩, fun x H' hx => ?_⟩
  obtain ⟨T, x1, x2, rfl, hT, rfl, hx1, hx2⟩ := hx
  have e1 := hx1 ys (.inl (.inl ha))
  have e2 := hx2 us (.inl (.inl hb))
  rw [hy] at e1; rw [hu] at e2
  cases e1; cases e2
  exact pair_ok ok (Rv.keep k v1 ry) (Rv.keep k v2 ru) hT
theorem walks_zipT {P : Pw} {a b : Addr} {vs ws : List Val} {ys us : List V} {L1 : Lk} {H1 : Hp} (r : Rvs z L1 H1 vs ys) (r2 : Rvs z L1 H1 ws us) (hP : ∀ L H t, Ok z L H t → P L H t → SqT z.K H a ys ∧ SqT z.K H b us ∧ Keep L1 H1 L H) : Walks z P (RZ.ItzT z.K a b) (zipL vs ws) := fun i L H t ok p => by
  obtain ⟨ha, hb, k⟩ := hP L H t ok p
  refine ⟨fun v hv => ?_, fun hi => ⟨ys, us, ha, hb, by rw [r.len, r2.len]; rw [zipL_len] at hi; omega⟩⟩
  obtain ⟨v1, v2, h1, h2, rfl⟩ := zipL_get hv
  obtain ⟨y, hy, ry⟩ := r.get h1
  obtain ⟨u, hu, ru⟩ := r2.get h2
  refine ⟨⟨ys, us, y, u, ha, hb, hy, hu⟩, fun x H' hx => ?_⟩
  obtain ⟨T, x1, x2, rfl, hT, rfl, hx1, hx2⟩ := hx
  have e1 := hx1 ys ha
  have e2 := hx2 us hb
  rw [hy] at e1; rw [hu] at e2
  cases e1; cases e2
  exact pair_ok ok (Rv.keep k v1 ry) (Rv.keep k v2 ru) hT
theorem rev_get {α : Type} {xs : List α} {i : Nat} {v : α} (h : xs.reverse[i]? = some v) : i < xs.length ∧ xs[xs.length - 1 - i]? = some v := by
  have hi : i < xs.length := by
    have := (List.getElem?_eq_some_iff.mp h).1
    simpa using this
  rw [List.getElem?_reverse hi] at h
  exact ⟨hi, h⟩
theorem walks_revL {K : PySem.W.Frag} {P : Pw} {a : Addr} {vs : List Val} {ys : List V} {L1 : Lk} {H1 : Hp} (r : Rvs z L1 H1 vs ys) (hP : ∀ L H t, Ok z L H t → P L H t → H a = some (.lst ys) ∧ Keep L1 H1 L H) : Walks z P (Itv K a ys.length) vs.reverse := fun i L H t ok p => by
  obtain ⟨ha, k⟩ := hP L H t ok p
  refine ⟨fun v hv => ?_, fun hi => by rw [List.length_reverse] at hi; show ys.length ≤ i; rw [r.len]; exact hi⟩
  obtain ⟨hi, hv⟩ := rev_get hv
  obtain ⟨y, hy, ry⟩ := r.get hv
  rw [← r.len] at hy hi
  refine ⟨⟨hi, ys, y, .inl (.inl ha), hy⟩, fun x H' hx => ?_⟩
  obtain ⟨rfl, hx⟩ := hx
  have := hx ys (.inl (.inl ha))
  rw [hy] at this
  cases this
  exact ⟨L, .refl ok, Rv.keep k v ry⟩
theorem walks_revT {P : Pw} {a : Addr} {vs : List Val} {ys : List V} {L1 : Lk} {H1 : Hp} (r : Rvs z L1 H1 vs ys) (hP : ∀ L H t, Ok z L H t → P L H t → SqT z.K H a ys ∧ Keep L1 H1 L H) : Walks z P (RT.ItvT z.K a ys.length) vs.reverse := fun i L H t ok p => by
  obtain ⟨ha, k⟩ := hP L H t ok p
  refine ⟨fun v hv => ?_, fun hi => by rw [List.length_reverse] at hi; show ys.length ≤ i; rw [r.len]; exact hi⟩
  obtain ⟨hi, hv⟩ := rev_get hv
  obtain ⟨y, hy, ry⟩ := r.get hv
  rw [← r.len] at hy hi
  refine ⟨⟨hi, ys, y, ha, hy⟩, fun x H' hx => ?_⟩
  obtain ⟨rfl, hx⟩ := hx
  have := hx ys ha
  rw [hy] at this
  cases this
  exact ⟨L, .refl ok, Rv.keep k v ry⟩

/-! ### the rules -/
variable {tg e e2 : Expr} {f : E} {a : A} {p pos : Pos}
theorem xi_seq [F : Fit z X] (he : PE X e (rd z W (RE z) f)) : PI X tg e (rdI z W (iSeq f)) := by
  refine (pi_seqA he).imp fun σ H Q h => ?_
  obtain ⟨L0, H0, t0, L, env, t, r, h⟩ := h
  refine ⟨L0, H0, t0, L, env, t, r, ?_⟩
  simp only [iSeq] at h
  cases e : f env t with
  | bad => rw [e] at h; exact h
  | exc k t' => rw [e] at h; exact h
  | ok v t1 =>
    rw [e] at h
    simp only [Res.bind_ok] at h
    intro x H1 L1 g1 rx
    rw [F.K]
    cases v <;> simp only [items] at h <;> try exact h.elim
    · simp only [RE, Rv] at rx
      obtain ⟨a, ys, rfl, h1, r1⟩ := rx
      exact ⟨a, rfl, .inr ⟨⟨ys, h1⟩, h _ H1 L1 g1 (walks_tup r1 fun _ _ _ _ k => ⟨k.sqT h1, k⟩)⟩⟩
    · simp only [RE, Rv] at rx
      obtain ⟨a, ys, rfl, l, h1, r1⟩ := rx
      exact ⟨a, rfl, .inl ⟨⟨ys, .inl (.inl h1)⟩, h _ H1 L1 g1 (walks_list r1 fun _ _ _ _ k => ⟨k.2 a _ h1 (.inl l), k⟩)⟩⟩
theorem xi_seqO [F : Fit z X] (he : PE X e (rd z W (RO z) f)) : PI X tg e (rdIG z W (iSeq f)) := by
  refine (pi_seqA he).imp fun σ H Q h => ?_
  obtain ⟨L0, H0, t0, L, env, t, r, h⟩ := h
  refine ⟨L0, H0, t0, L, env, t, r, ?_⟩
  simp only [iSeq] at h
  cases e : f env t with
  | bad => rw [e] at h; exact h
  | exc k t' => rw [e] at h; exact h
  | ok v t1 =>
    rw [e] at h
    simp only [Res.bind_ok] at h
    intro x H1 L1 g1 rx
    rw [F.K]
    cases v <;> simp only [items] at h <;> try exact h.elim
    · obtain ⟨a, ys, rfl, h1, r1⟩ := rx.tup
      exact ⟨a, rfl, .inr ⟨⟨ys, h1⟩, h _ H1 L1 g1 (walks_tup r1 fun _ _ _ _ g => ⟨g.keep.sqT h1, g.keep⟩)⟩⟩
    · rcases rx with rx | ⟨ws, a, ys, e, rfl, n, h1, r1⟩
      · simp only [Rv] at rx
        obtain ⟨a, ys, rfl, l, h1, r1⟩ := rx
        exact ⟨a, rfl, .inl ⟨⟨ys, .inl (.inl h1)⟩, h _ H1 L1 g1 (walks_list r1 fun _ _ _ _ g => ⟨g.keep.2 a _ h1 (.inl l), g.keep⟩)⟩⟩
      · cases e
        exact ⟨a, rfl, .inl ⟨⟨ys, .inl (.inl h1)⟩, h _ H1 L1 g1 (walks_list r1 fun _ _ _ _ g => ⟨g.stay a _ h1 n, g.keep⟩)⟩⟩
theorem lim62 {j : Int} (h1 : j ≤ lim) (h2 : -lim ≤ j) : -(2 ^ 62) ≤ j ∧ j < 2 ^ 62 := by
  simp only [lim] at h1 h2
  omega
theorem xi_range1 (hg : Gl X "range") (hm : X.mg "range" = none) (ha : PA X [e] (rdA z W (RO z) a)) (hs : starEach [e] X.env = [(false, eval e X.env)] := by rfl) : PI X tg (.Call (.Name "range" p) [e] [] pos) (rdI z W (iRange1 a)) := by
  refine (pi_range1 hg hm ha hs).imp fun σ H Q h => ?_
  obtain ⟨L0, H0, t0, L, env, t, r, h⟩ := h
  refine ⟨L0, H0, t0, L, env, t, r, ?_⟩
  simp only [iRange1] at h
  cases e : a env t with
  | bad => rw [e] at h; exact h
  | exc k t' => rw [e] at h; exact h
  | ok vs t1 =>
    rw [e] at h
    simp only [Res.bind_ok] at h
    intro xs H1 L1 g1 rx
    match vs, h, rx with
    | [.int j], h, rx =>
      simp only at h
      by_cases hb : j ≤ lim ∧ -lim ≤ j
      · rw [if_pos hb] at h
        obtain ⟨y, rfl, hy⟩ := rx.one
        cases hy.int
        have q := lim62 hb.1 hb.2
        refine ⟨j, rfl, q.1, q.2, h _ H1 L1 g1 ?_⟩
        have e1 : j.toNat = (j - 0).toNat := by simp
        rw [e1]
        exact walks_range
      · rw [if_neg hb] at h; exact h.elim
theorem xi_range2 (hg : Gl X "range") (hm : X.mg "range" = none) (ha : PA X [e, e2] (rdA z W (RO z) a)) (hs : starEach [e, e2] X.env = [(false, eval e X.env), (false, eval e2 X.env)] := by rfl) (hs2 : starEach [e2] X.env = [(false, eval e2 X.env)] := by rfl) : PI X tg (.Call (.Name "range" p) [e, e2] [] pos) (rdI z W (iRange2 a)) := by
  refine (pi_range2 hg hm ha hs hs2).imp fun σ H Q h => ?_
  obtain ⟨L0, H0, t0, L, env, t, r, h⟩ := h
  refine ⟨L0, H0, t0, L, env, t, r, ?_⟩
  simp only [iRange2] at h
  cases e : a env t with
  | bad => rw [e] at h; exact h
  | exc k t' => rw [e] at h; exact h
  | ok vs t1 =>
    rw [e] at h
    simp only [Res.bind_ok] at h
    intro xs H1 L1 g1 rx
    match vs, h, rx with
    | [.int i, .int j], h, rx =>
      simp only at h
      by_cases hb : -lim ≤ i ∧ i ≤ lim ∧ -lim ≤ j ∧ j ≤ lim
      · rw [if_pos hb] at h
        obtain ⟨y, w, rfl, hy, hw⟩ := rx.two
        cases hy.int; cases hw.int
        have q1 := lim62 hb.2.1 hb.1
        have q2 := lim62 hb.2.2.2 hb.2.2.1
        exact ⟨i, j, rfl, ⟨q1.1, q1.2, q2.1, q2.2⟩, h _ H1 L1 g1 walks_range⟩
      · rw [if_neg hb] at h; exact h.elim
variable {elts : List Expr} {kk : Nat} {tpos : Pos}
theorem xi_enum [F : Fit z X] (hg : Gl X "enumerate") (hm : X.mg "enumerate" = none) (ha : PA X [e] (rdA z W (RE z) a)) (hs : starEach [e] X.env = [(false, eval e X.env)] := by rfl) : PI X (.Tuple elts kk tpos) (.Call (.Name "enumerate" p) [e] [] pos) (rdI z W (iEnum a)) := by
  refine (pi_enumA hg hm ha hs).imp fun σ H Q h => ?_
  obtain ⟨L0, H0, t0, L, env, t, r, h⟩ := h
  refine ⟨L0, H0, t0, L, env, t, r, ?_⟩
  simp only [iEnum] at h
  cases e : a env t with
  | bad => rw [e] at h; exact h
  | exc k t' => rw [e] at h; exact h
  | ok vs t1 =>
    rw [e] at h
    simp only [Res.bind_ok] at h
    intro xs H1 L1 g1 rx
    rw [F.K]
    match vs, h, rx with
    | [.tup ws], h, rx =>
      obtain ⟨y, rfl, hy⟩ := rx.one
      simp only [RE, Rv] at hy
      obtain ⟨a, ys, rfl, h1, r1⟩ := hy
      exact ⟨a, ys, rfl, .inr ⟨h1, h _ H1 L1 g1 (walks_enumT r1 fun _ _ _ _ k => ⟨k.sqT h1, k⟩)⟩⟩
    | [.lst ws], h, rx =>
      obtain ⟨y, rfl, hy⟩ := rx.one
      simp only [RE, Rv] at hy
      obtain ⟨a, ys, rfl, l, h1, r1⟩ := hy
      exact ⟨a, ys, rfl, .inl ⟨.inl (.inl h1), h _ H1 L1 g1 (walks_enumL r1 fun _ _ _ _ k => ⟨k.2 a _ h1 (.inl l), k⟩)⟩⟩
theorem xi_zip [F : Fit z X] (hg : Gl X "zip") (hm : X.mg "zip" = none) (ha : PA X [e, e2] (rdA z W (RE z) a))
    (hs : starEach [e, e2] X.env = (false, eval e X.env) :: starEach [e2] X.env := by rfl) (hpl : (backTo pos (starEach [e2] X.env)).any (·.1) = false := by rfl) : PI X (.Tuple elts kk tpos) (.Call (.Name "zip" p) [e, e2] [] pos) (rdI z W (iZip a)) := by
  refine (RZ.pi_zipA hg hm ha hs hpl).imp fun σ H Q h => ?_
  obtain ⟨L0, H0, t0, L, env, t, r, h⟩ := h
  refine ⟨L0, H0, t0, L, env, t, r, ?_⟩
  simp only [iZip] at h
  cases e : a env t with
  | bad => rw [e] at h; exact h
  | exc k t' => rw [e] at h; exact h
  | ok vs t1 =>
    rw [e] at h
    simp only [Res.bind_ok] at h
    intro xs H1 L1 g1 rx
    rw [F.K]
    match vs, h, rx with
    | [.tup ws, .tup us], h, rx =>
      obtain ⟨y, w, rfl, hy, hw⟩ := rx.two
      simp only [RE, Rv] at hy hw
      obtain ⟨a, ys, rfl, h1, r1⟩ := hy
      obtain ⟨b, zs, rfl, h2, r2⟩ := hw
      exact ⟨a, b, ys, zs, rfl, .inr ⟨h1, h2, h _ H1 L1 g1 (walks_zipT r1 r2 fun _ _ _ _ k => ⟨k.sqT h1, k.sqT h2, k⟩)⟩⟩
    | [.lst ws, .lst us], h, rx =>
      obtain ⟨y, w, rfl, hy, hw⟩ := rx.two
      simp only [RE, Rv] at hy hw
      obtain ⟨a, ys, rfl, l1, h1, r1⟩ := hy
      obtain ⟨b, zs, rfl, l2, h2, r2⟩ := hw
      exact ⟨a, b, ys, zs, rfl, .inl ⟨.inl (.inl h1), .inl (.inl h2), h _ H1 L1 g1 (walks_zipL r1 r2 fun _ _ _ _ k => ⟨k.2 a _ h1 (.inl l1), k.2 b _ h2 (.inl l2), k⟩)⟩⟩
theorem xi_rev [F : Fit z X] (hg : Gl X "reversed") (hm : X.mg "reversed" = none) (he : PE X e (rd z W (RE z) f)) (hs : starEach [e] X.env = (false, eval e X.env) :: starEach [] X.env := by rfl) : PI X tg (.Call (.Name "reversed" p) [e] [] pos) (rdI z W (iRev f)) := by
  refine (RT.pi_revA hg hm he hs).imp fun σ H Q h => ?_
  obtain ⟨L0, H0, t0, L, env, t, r, h⟩ := h
  refine ⟨L0, H0, t0, L, env, t, r, ?_⟩
  simp only [iRev] at h
  cases e : f env t with
  | bad => rw [e] at h; exact h
  | exc k t' => rw [e] at h; exact h
  | ok v t1 =>
    rw [e] at h
    simp only [Res.bind_ok] at h
    intro x H1 L1 g1 rx
    rw [F.K]
    cases v <;> simp only [items] at h <;> try exact h.elim
    · simp only [RE, Rv] at rx
      obtain ⟨a, ys, rfl, h1, r1⟩ := rx
      exact ⟨a, ys, rfl, .inr ⟨h1, h _ H1 L1 g1 (walks_revT r1 fun _ _ _ _ k => ⟨k.sqT h1, k⟩)⟩⟩
    · simp only [RE, Rv] at rx
      obtain ⟨a, ys, rfl, l, h1, r1⟩ := rx
      exact ⟨a, ys, rfl, .inl ⟨.inl (.inl h1), h _ H1 L1 g1 (walks_revL r1 fun _ _ _ _ k => ⟨k.2 a _ h1 (.inl l), k⟩)⟩⟩
end
end Nf

namespace Nf
open PySem PySem.Spec PyProof.Rows L2
section
variable {z : Cz} {W : Wx} {X : Cx} {L : Lk} {H : Hp} {t : Tin} {R : Rr}

/-! ### targets -/
/-- a value goes to a target that stores at the slots is -/
def rdG (z : Cz) (g : Nf.G) (is : List Nat) : TG := fun x σ H Q => ∃ L0 H0 t0 L env t v, RelS z L0 H0 t0 L env t σ H ∧ Rv z L H v x ∧ match g v env with
  | some env' => ∀ σ', RelS z L0 H0 t0 L env' t σ' H → (∀ vs, (∀ i ∈ is, i ∈ vs) → L2.wipe σ' vs = L2.wipe σ vs) → Q σ' H
  | none => False
def rdGs (z : Cz) (gs : List Nf.G) (is : List Nat) : TGs := fun xs σ H Q => ∃ L0 H0 t0 L env t vs, RelS z L0 H0 t0 L env t σ H ∧ Rvs z L H vs xs ∧ match gsL gs vs env with
  | some env' => ∀ σ', RelS z L0 H0 t0 L env' t σ' H → (∀ vs, (∀ i ∈ is, i ∈ vs) → L2.wipe σ' vs = L2.wipe σ vs) → Q σ' H
  | none => False
theorem getElem?_set_self' {α : Type} {l : List α} {i : Nat} {x : α} (h : i < l.length) : (l.set i x)[i]? = some x := by simp [h]
theorem getElem?_set_ne' {α : Type} {l : List α} {i j : Nat} {x : α} (h : i ≠ j) : (l.set i x)[j]? = l[j]? := by simp [h]
/-- a slot takes a value -/
theorem RelS.put {L0 : Lk} {H0 : Hp} {t0 : Tin} {env : Env} {σ : List (Option V)} {v : Val} {x : V} {i : Nat} (r : RelS z L0 H0 t0 L env t σ H) (hv : Rv z L H v x) (hi : i < env.length) : RelS z L0 H0 t0 L (env.set i (some (false, v))) t (σ.set i (some x)) H where
  base := r.base
  ok := r.ok
  len := by rw [List.length_set, List.length_set]; exact r.len
  val := fun j w e => by
    by_cases h : i = j
    · subst h
      rw [getElem?_set_self' hi] at e
      cases e
      exact ⟨x, getElem?_set_self' (by rw [← r.len]; exact hi), hv⟩
    · rw [getElem?_set_ne' h] at e ⊢
      exact r.val j w e
  own := by
    obtain ⟨oa, h1, h2⟩ := r.own
    refine ⟨oa, fun j w e => ?_, fun j k w u e1 e2 n => ?_⟩
    · by_cases h : i = j
      · subst h; rw [getElem?_set_self' hi] at e; cases e
      · rw [getElem?_set_ne' h] at e ⊢; exact h1 j w e
    · have n1 : i ≠ j := fun h => by subst h; rw [getElem?_set_self' hi] at e1; cases e1
      have n2 : i ≠ k := fun h => by subst h; rw [getElem?_set_self' hi] at e2; cases e2
      rw [getElem?_set_ne' n1] at e1
      rw [getElem?_set_ne' n2] at e2
      exact h2 j k w u e1 e2 n
/-- a slot is forgotten -/
theorem RelS.forget {L0 : Lk} {H0 : Hp} {t0 : Tin} {env : Env} {σ : List (Option V)} {i : Nat} (r : RelS z L0 H0 t0 L env t σ H) : RelS z L0 H0 t0 L (env.set i none) t (σ.set i none) H where
  base := r.base
  ok := r.ok
  len := by rw [List.length_set, List.length_set]; exact r.len
  val := fun j w e => by
    by_cases h : i = j
    · subst h
      rw [List.getElem?_set] at e
      split at e <;> simp_all
    · rw [getElem?_set_ne' h] at e ⊢
      exact r.val j w e
  own := by
    obtain ⟨oa, h1, h2⟩ := r.own
    have ne : ∀ j w, (env.set i none)[j]? = some (some (true, w)) → i ≠ j := fun j w e h => by
      subst h; rw [List.getElem?_set] at e; split at e <;> simp_all
    refine ⟨oa, fun j w e => ?_, fun j k w u e1 e2 n => ?_⟩
    · have h := ne j w e
      rw [getElem?_set_ne' h] at e ⊢; exact h1 j w e
    · have n1 := ne j w e1
      have n2 := ne k u e2
      rw [getElem?_set_ne' n1] at e1
      rw [getElem?_set_ne' n2] at e2
      exact h2 j k w u e1 e2 n
theorem RelS.wiped {L0 : Lk} {H0 : Hp} {t0 : Tin} {env : Env} {σ : List (Option V)} (r : RelS z L0 H0 t0 L env t σ H) : ∀ vs : List Nat, RelS z L0 H0 t0 L (Nf.wipe env vs) t (L2.wipe σ vs) H
  | [] => r
  | v :: vs => (r.wiped vs).forget
theorem wipe_set {σ : L2.St} {i : Nat} {o : Option V} : ∀ {vs : List Nat}, i ∈ vs → L2.wipe (σ.set i o) vs = L2.wipe σ vs
  | v :: vs, h => by
    unfold L2.wipe
    by_cases hv : i = v
    · subst hv
      by_cases hm : i ∈ vs
      · rw [wipe_set hm]
      · have : ∀ (ws : List Nat), i ∉ ws → L2.wipe (σ.set i o) ws = (L2.wipe σ ws).set i o := by
          intro ws
          induction ws with
          | nil => intro _; rfl
          | cons w ws ih =>
            intro hn
            unfold L2.wipe
            rw [ih (fun h => hn (List.mem_cons_of_mem _ h)), List.set_comm]
            exact fun e => hn (by rw [e]; exact List.mem_cons_self)
        rw [this vs hm, List.set_set]
    · rcases List.mem_cons.mp h with h | h
      · exact absurd h hv
      · rw [wipe_set h]
variable {pos : Pos}
theorem xg_name (i : Nat) {x : PySem.Str} (hN : X.N.Nodup) (hi : X.N[i]? = some x) (hx : Loc X.env.scope x) (hf : X.fn x = true ∨ X.env.scope.names.lookup x = some .local := by first | exact .inl rfl | exact .inr rfl | assumption) : PG X (.Name x pos) (rdG z (Nf.gName i) [i]) := by
  refine (pg_name hN hi hx hf).imp fun x σ H Q h => ?_
  obtain ⟨L0, H0, t0, L, env, t, v, r, hv, h⟩ := h
  simp only [Nf.gName] at h
  by_cases hl : i < env.length
  · rw [if_pos hl] at h
    exact h _ (r.put hv hl) fun vs hvs => wipe_set (hvs i (by simp))
  · rw [if_neg hl] at h; exact h.elim
theorem xgs_nil : PGs X [] (rdGs z [] []) := ⟨fun pins s σ H vs us Q I r h => by
  refine (pgs_nil (X := X)).run pins s σ H vs us Q I r ?_
  obtain ⟨L0, H0, t0, L, env, t, ws, rr, hv, h⟩ := h
  cases ws with
  | nil =>
    simp only [Rvs] at hv
    exact ⟨hv, h σ rr fun _ _ => rfl⟩
  | cons w ws => exact h.elim⟩
theorem xgs_cons {e : Expr} {es : List Expr} {g : Nf.G} {gs : List Nf.G} {is js : List Nat} (h1 : PG X e (rdG z g is)) (h2 : PGs X es (rdGs z gs js))
    (hs : (assignEach (e :: es) X.env).map (·.2) = assign e X.env :: (assignEach es X.env).map (·.2) := by rfl) : PGs X (e :: es) (rdGs z (g :: gs) (is ++ js)) := ⟨fun pins s σ H vs us Q I r h => by
  refine (pgs_cons h1 h2 hs).run pins s σ H vs us Q I r ?_
  obtain ⟨L0, H0, t0, L, env, t, ws, rr, hv, h⟩ := h
  cases ws with
  | nil => exact h.elim
  | cons w ws =>
    simp only [Rvs] at hv
    obtain ⟨y, ys, rfl, hy, hys⟩ := hv
    refine ⟨y, ys, rfl, L0, H0, t0, L, env, t, w, rr, hy, ?_⟩
    simp only [gsL] at h
    cases e : g w env with
    | none => rw [e] at h; exact h.elim
    | some env1 =>
      rw [e] at h
      intro σ1 r1 hw1
      refine ⟨L0, H0, t0, L, env1, t, ws, r1, hys, ?_⟩
      simp only [Option.bind_some] at h
      cases e2 : gsL gs ws env1 with
      | none => rw [e2] at h; exact h.elim
      | some env2 =>
        rw [e2] at h
        intro σ2 r2 hw2
        exact h σ2 r2 fun vs hvs => (hw2 vs fun i hi => hvs i (List.mem_append_right _ hi)).trans (hw1 vs fun i hi => hvs i (List.mem_append_left _ hi))⟩
theorem xg_tup [F : Fit z X] {es : List Expr} {k n : Nat} {gs : List Nf.G} {is : List Nat} (h : PGs X es (rdGs z gs is)) (hk : gs.length = n := by rfl)
    (hn : (assignEach es X.env).length = n := by rfl) (hst : (assignEach es X.env).findIdx? (·.1) = none := by rfl) : PG X (.Tuple es k pos) (rdG z (Nf.gTup gs) is) := by
  refine (pg_tup F.calm h hn hst).imp fun x σ H Q h => ?_
  obtain ⟨L0, H0, t0, L, env, t, v, r, hv, h⟩ := h
  cases v <;> simp only [Nf.gTup] at h <;> try exact h.elim
  rename_i ws
  simp only [Rv] at hv
  obtain ⟨a, ys, rfl, h1, r1⟩ := hv
  have hlen : ∀ (gs : List Nf.G) (ws : List Val) (env : Env), gsL gs ws env ≠ none → ws.length = gs.length := by
    intro gs
    induction gs with
    | nil => intro ws env h; cases ws with
      | nil => rfl
      | cons w ws => exact absurd rfl h
    | cons g gs ih =>
      intro ws env h
      cases ws with
      | nil => exact absurd rfl h
      | cons w ws =>
        simp only [gsL] at h
        cases e : g w env with
        | none => rw [e] at h; exact absurd rfl h
        | some env1 =>
          rw [e] at h
          simp only [Option.bind_some] at h
          simp [ih ws env1 h]
  have hl : ws.length = gs.length := hlen gs ws env (fun e => by rw [e] at h; exact h)
  exact ⟨a, ys, rfl, by rw [F.K]; exact h1, by rw [r1.len, hl, hk], L0, H0, t0, L, env, t, ws, r, r1, h⟩

/-! ### comprehensions -/
abbrev W0 : Wx := fun _ _ => False
/-- the list at p, which nobody knows, is changed -/
theorem Go.at {L' : Lk} {H' : Hp} {t' : Tin} (g : Go z L H t L' H' t') {p : Addr} {o : HO} (hp : H p = none) (hl : ¬ L' p) (ht : z.ta ≠ some p) : Go z L H t L' (L2.upd H' p o) t' := by
  refine ⟨g.pre, ⟨fun a l => ?_, fun a e => ⟨(g.ok.2 a e).1, ?_⟩⟩, g.up, g.new, fun a u e n => ?_⟩
  · have n : a ≠ p := fun e => by subst e; exact hl l
    rw [upd_ne n]; exact g.ok.1 a l
  · have n : a ≠ p := fun e' => by subst e'; exact ht e
    rw [upd_ne n]; exact (g.ok.2 a e).2
  · have n' : a ≠ p := fun e' => by subst e'; rw [hp] at e; cases e
    rw [upd_ne n']; exact g.stay a u e n
theorem Keep.at {p : Addr} {o : HO} {xs : List V} (hl : ¬ L p) (hp : H p = some (.lst xs)) : Keep L H L (L2.upd H p o) := by
  refine ⟨fun _ h => h, fun a u e c => ?_⟩
  have n : a ≠ p := fun e' => by
    subst e'
    rw [hp] at e; cases e
    rcases c with c | ⟨_, c⟩ | ⟨_, _, c⟩
    · exact hl c
    · cases c
    · cases c
  rw [upd_ne n]; exact e
variable {it : Nf.It} {g : Nf.G} {c : T} {f : E} {is own : List Nat}
/-- a comprehension's invariant -/
structure LcInv (z : Cz) (L1 : Lk) (H1 : Hp) (t1 : Tin) (xs : List Val) (D : Addr) (env : Env) (g : Nf.G) (c : T) (f : E) (vs : List Val) (t2 : Tin) (i : Nat) (H' : Hp) : Prop where
  ex : ∃ (Li : Lk) (ti : Tin) (done rest : List Val) (acc : List V), Go z L1 H1 t1 Li H' ti ∧ H' D = some (.lst acc) ∧ ¬ Li D ∧ Rvs z Li H' done acc ∧ done.length ≤ i ∧ i ≤ xs.length ∧ compLoop g c f env (xs.drop i) ti = .ok rest t2 ∧ vs = done ++ rest
theorem rd_comp {tg : Nf.G} {σ H Q} (hsub : ∀ i ∈ is, i ∈ own) (h : rd z W (RN z) (eComp it g own c f) σ H Q) :
    tLc (rdIG z W it) (rdG z g is) (rdT z W0 c) (rd z W0 (RE z) f) own σ H Q := by
  obtain ⟨L0, H0, t0, L, env, t, r, h⟩ := h
  refine ⟨L0, H0, t0, L, env, t, r, ?_⟩
  simp only [eComp] at h
  cases e : it env t with
  | bad => rw [e] at h; exact h
  | exc k t' => rw [e] at h; exact h
  | ok xs t1 =>
    rw [e] at h
    simp only [Res.bind_ok] at h
    intro J H1 L1 g1 wk D hD
    by_cases hxs : xs.length ≤ lim
    case neg => rw [if_neg hxs] at h; exact h.elim
    rw [if_pos hxs] at h
    cases e2 : compLoop g c f (Nf.wipe env own) xs t1 with
    | bad => rw [e2] at h; exact h.elim
    | exc k t' => rw [e2] at h; exact h.elim
    | ok vs t2 =>
      rw [e2] at h
      simp only [Res.bindN_ok] at h
      have hta : z.ta ≠ some D := g1.ok.ta_ne hD
      refine ⟨fun i m H' => m = xs.length - i ∧ LcInv z L1 H1 t1 xs D (Nf.wipe env own) g c f vs t2 i H', ⟨xs.length, by simp, ⟨L1, t1, [], vs, [], ?_, upd_same, ?_, Rvs.nil, by simp, by simp, by simpa using e2, by simp⟩⟩, ?_⟩
      · exact (Go.refl g1.ok).at hD (fun l => by obtain ⟨u, eu⟩ := g1.ok.1 D l; rw [hD] at eu; cases eu) hta
      · exact fun l => by obtain ⟨u, eu⟩ := g1.ok.1 D l; rw [hD] at eu; cases eu
      · intro i m Hi ⟨hm, ⟨Li, ti, done, rest, acc, gi, hDi, nDi, rd, hdl, hil, hloop, hvs⟩⟩
        have wki := wk i Li Hi ti gi.ok gi
        by_cases hi : i < xs.length
        · refine .inr ?_
          have hx : xs[i]? = some xs[i] := List.getElem?_eq_getElem hi
          obtain ⟨hgo, hyld⟩ := wki.1 _ hx
          refine ⟨hgo, fun H' => ∃ m', m' < m ∧ m' = xs.length - (i + 1) ∧ LcInv z L1 H1 t1 xs D (Nf.wipe env own) g c f vs t2 (i + 1) H', fun H' ⟨m', h1, h2, h3⟩ => ⟨m', h1, h2, h3⟩, fun x H2 hy => ?_⟩
          obtain ⟨L2', g2, rx⟩ := hyld x H2 hy
          rw [List.drop_eq_getElem_cons hi] at hloop
          simp only [compLoop] at hloop
          have r2 : RelS z L0 H0 t0 L2' (Nf.wipe env own) ti (L2.wipe σ own) H2 := (((r.go g1).go gi).go g2).wiped own
          refine ⟨L0, H0, t0, L2', Nf.wipe env own, ti, xs[i], r2, rx, ?_⟩
          cases e3 : g xs[i] (Nf.wipe env own) with
          | none => rw [e3] at hloop; cases hloop
          | some env1 =>
            rw [e3] at hloop
            simp only at hloop
            intro σ2 rel2 hw
            refine ⟨(hw own hsub).trans ?_, L0, H0, t0, L2', env1, ti, rel2, ?_⟩
            · have : ∀ (σ : L2.St) (ws : List Nat), (∀ i ∈ ws, i ∈ own) → L2.wipe (L2.wipe σ ws) own = L2.wipe σ own := by
                intro σ ws
                induction ws with
                | nil => intro _; rfl
                | cons w ws ih =>
                  intro hs
                  show L2.wipe ((L2.wipe σ ws).set w none) own = _
                  rw [wipe_set (hs w List.mem_cons_self)]
                  exact ih fun i hi => hs i (List.mem_cons_of_mem _ hi)
              exact this σ own fun _ h => h
            cases e4 : c env1 ti with
            | bad => rw [e4] at hloop; cases hloop
            | exc k t' => rw [e4] at hloop; cases hloop
            | ok b t3 =>
              rw [e4] at hloop
              simp only [Res.bindN_ok] at hloop
              intro H3 L3 g3
              have g13 : Go z L1 H1 t1 L3 H3 t3 := gi.trans (g2.trans g3)
              have k23 : Keep Li Hi L3 H3 := (g2.trans g3).keep
              have nD3 : ¬ L3 D := fun l => by
                rcases (g2.trans g3).new D l with l | l
                · exact nDi l
                · rw [hDi] at l; cases l
              have hD3 : H3 D = some (.lst acc) := (g2.trans g3).stay D _ hDi hta
              cases b with
              | false =>
                simp only [Bool.false_eq_true, if_false] at hloop ⊢
                exact ⟨m - 1, by omega, by omega, ⟨L3, t3, done, rest, acc, g13, hD3, nD3, Rvs.keep k23 done rd, by omega, by omega, hloop, hvs⟩⟩
              | true =>
                simp only [if_true] at hloop ⊢
                refine ⟨L0, H0, t0, L3, env1, t3, rel2.go g3, ?_⟩
                cases e5 : f env1 t3 with
                | bad => rw [e5] at hloop; cases hloop
                | exc k t' => rw [e5] at hloop; cases hloop
                | ok v t4 =>
                  rw [e5] at hloop
                  simp only [Res.bindN_ok] at hloop
                  intro y H4 L4 g4 ry
                  have k4 : Keep Li Hi L4 H4 := (g2.trans (g3.trans g4)).keep
                  have nD4 : ¬ L4 D := fun l => by
                    rcases g4.new D l with l | l
                    · exact nD3 l
                    · rw [hD3] at l; cases l
                  have hD4 : H4 D = some (.lst acc) := g4.stay D _ hD3 hta
                  cases e6 : compLoop g c f (Nf.wipe env own) (xs.drop (i + 1)) t4 with
                  | bad => rw [e6] at hloop; cases hloop
                  | exc k t' => rw [e6] at hloop; cases hloop
                  | ok ws t5 =>
                    rw [e6] at hloop
                    simp only [Res.bindN_ok, Res.ok.injEq] at hloop
                    obtain ⟨h1, h2⟩ := hloop
                    subst h1 h2
                    have kk : Keep L4 H4 L4 (upd H4 D (.lst (acc ++ [y]))) := Keep.at nD4 hD4
                    refine ⟨acc, hD4, ?_, m - 1, by omega, by omega, ⟨L4, t4, done ++ [v], ws, acc ++ [y], (g13.trans g4).at hD nD4 hta, upd_same, nD4, ?_, by simp; omega, by omega, e6, by rw [hvs]; simp⟩⟩
                    · rw [rd.len]
                      exact Nat.lt_of_le_of_lt (Nat.le_of_lt (Nat.lt_of_le_of_lt hdl hi)) (Nat.lt_of_le_of_lt hxs (by decide))
                    · exact Rvs.append (Rvs.keep (k4.trans kk) done rd) (Rvs.cons (Rv.keep kk v ry) Rvs.nil)
        · refine .inl ⟨wki.2 (by omega), ?_⟩
          have he : xs.drop i = [] := List.drop_eq_nil_of_le (by omega)
          rw [he] at hloop
          simp only [compLoop, Res.ok.injEq] at hloop
          obtain ⟨h1, h2⟩ := hloop
          subst h1 h2
          rw [List.append_nil] at hvs
          subst hvs
          refine h _ Hi Li (g1.trans gi) ⟨vs, D, acc, rfl, rfl, g1.free hD, nDi, hDi, rd⟩
end
end Nf

namespace Nf
open PySem PySem.Spec PyProof.Rows L2
section
variable {z : Cz} {W : Wx} {X : Cx} {L : Lk} {H : Hp} {t : Tin} {R : Rr} {pos p : Pos}

/-! ### comprehensions -/
variable {it : Nf.It} {g : Nf.G} {c : T} {f : E} {is : List Nat}
theorem PTs.imp {X : Cx} {e : List Expr} {t t' : TT} (h : PTs X e t) (i : ∀ σ H Q, t' σ H Q → t σ H Q) : PTs X e t' := ⟨fun pins s σ H Q I q => h.run pins s σ H Q I (i σ H Q q)⟩
theorem xts_nil : PTs X [] (rdT z W Nf.tYes) := PTs.imp pts_nil fun σ H Q h => by
  obtain ⟨L0, H0, t0, L, env, t, r, h⟩ := h
  exact h H L (.refl r.ok)
theorem xts_one {e : Expr} (h : PT X e (rdT z W c)) : PTs X [e] (rdT z W c) := pts_one h
theorem xcomp [F : Fit z X] {elt tg iter : Expr} {ifs : List Expr} {scope : Scope} {own : List (PySem.Str × Nat)} (ns : List Nat) (hN : X.N.Nodup) (hi : PI X tg iter (rdIG z W it)) (ok : BlkOk X.N X.env.scope scope own) (hns : ns = own.map (·.2))
    (hg : ∀ (s : Shared) (H : Hp) (C : Addr) (cl : List (PySem.Str × Addr)) (fp : List Addr), PG (X.blk s H scope (compEnvC scope cl C X.env) fp) tg (rdG z g is))
    (ht : ∀ (s : Shared) (H : Hp) (C : Addr) (cl : List (PySem.Str × Addr)) (fp : List Addr), PTs (X.blk s H scope (compEnvC scope cl C X.env) fp) ifs (rdT z W0 c))
    (he : ∀ (s : Shared) (H : Hp) (C : Addr) (cl : List (PySem.Str × Addr)) (fp : List Addr), PE (X.blk s H scope (compEnvC scope cl C X.env) fp) elt (rd z W0 (RE z) f))
    (hsub : ∀ i ∈ is, i ∈ ns := by decide) (hs : ∀ x, foldedSetIterable iter X.env x = pure x := by intro _; rfl) :
    PE X (.ListComp elt [⟨tg, iter, ifs, 0⟩] scope pos) (rd z W (RN z) (eComp it g ns c f)) := by
  subst hns
  exact (pe_lc F.calm hN hi ok hg ht he hs).imp fun _ _ _ => rd_comp (tg := fun _ _ => none) hsub

/-! ### calls -/
def spOf (K : PySem.W.Frag) (fa : Nat → Addr) (g : List Val → M Val) : Sp := fun vs H Q _ => ∃ ta L args t, Ok ⟨K, ta, fa⟩ L H t ∧ Rvs ⟨K, ta, fa⟩ L H args vs ∧ match g args t with
  | .ok v t' => ∀ x H' L', Go ⟨K, ta, fa⟩ L H t L' H' t' → Rv ⟨K, ta, fa⟩ L' H' v x → Q x H'
  | .exc _ _ => False
  | .bad => False
/-- weaker: where g has an answer, g' has the same -/
theorem spOf_imp {K : PySem.W.Frag} {fa : Nat → Addr} {g g' : List Val → M Val} (h : ∀ args t, g' args t ≠ .bad → g args t = g' args t) : ∀ vs H Q E, spOf K fa g' vs H Q E → spOf K fa g vs H Q E := fun vs H Q E ⟨ta, L, args, t, ok, r, q⟩ => by
  refine ⟨ta, L, args, t, ok, r, ?_⟩
  rw [h args t (fun e => by rw [e] at q; exact q)]
  exact q
abbrev Fok (X : Cx) (z : Cz) (k : Nat) (f : Addr) (fd : FuncData) (ps : List PySem.Str) (g : List Val → M Val) : Prop := FnOk X.prog X.w X.K X.mg X.base CX0 k f fd ps (spOf z.K z.fa g)
variable {x : PySem.Str} {e : Expr} {es : List Expr} {fa : A}
theorem xcall (Γ : Gam) (j : Nat) {k : Nat} {ad : Addr} {fd : FuncData} {ps : List PySem.Str} (F : Fok X z k ad fd ps (Γ j)) (hr : Room k X.A) (hg : Gl X x) (hm : X.mg x = some (.ref ad)) (hk : PySem.W.keepIn X.K (.ref ad) = true) (hb : Binds X.K fd ps [])
    (ha : PA X (e :: es) (rdA z W (RE z) fa)) (hdb : (x == ("__debug__" : PySem.Str)) = false := by decide) (he : starEach (e :: es) X.env = (false, eval e X.env) :: starEach es X.env := by rfl) (hpl : (backTo pos (starEach es X.env)).any (·.1) = false := by rfl) :
    PE X (.Call (.Name x p) (e :: es) [] pos) (rd z W (RE z) (eCall Γ j fa)) := by
  refine (pe_call F hr hg hm hk hb .nil pass0 ha hdb he hpl).imp fun σ H Q h => ?_
  obtain ⟨L0, H0, t0, L, env, t, r, h⟩ := h
  refine ⟨L0, H0, t0, L, env, t, r, ?_⟩
  simp only [eCall] at h
  cases e : fa env t with
  | bad => rw [e] at h; exact h
  | exc k t' => rw [e] at h; exact h
  | ok vs t1 =>
    rw [e] at h
    simp only [Res.bind_ok] at h
    intro ys H1 L1 g1 ry
    have ry := ry.rvs
    rw [List.append_nil]
    refine ⟨z.ta, L1, vs, t1, g1.ok, ry, ?_⟩
    cases e2 : Γ j vs t1 with
    | bad => rw [e2] at h; exact h
    | exc k t' => rw [e2] at h; exact h
    | ok v t2 =>
      rw [e2] at h
      exact fun x H' L' g2 rv => h x H' L' (g1.trans g2) rv

/-! ### isinstance -/
def tyN : Val → Option String
  | .non => some "NoneType"
  | .bl _ => some "bool"
  | .int _ => some "int"
  | .str _ => some "str"
  | .tup _ => some "tuple"
  | .lst _ => some "list"
  | _ => none
def Ty.nm : Ty → String
  | .int => "int"
  | .bool => "bool"
  | .str => "str"
  | .tuple => "tuple"
  | .list => "list"
theorem kit_tbl (n : String) (hn : n ∈ ["NoneType", "bool", "int", "str", "tuple", "list"]) (ty : Ty) : ∃ b, kitB n ty.nm = some b := by
  simp only [List.mem_cons, List.not_mem_nil, or_false] at hn
  rcases hn with rfl | rfl | rfl | rfl | rfl | rfl <;> cases ty <;> first | exact ⟨true, by decide +kernel⟩ | exact ⟨false, by decide +kernel⟩
theorem isa_kit {v : Val} {ty : Ty} {b : Bool} (h : v.isa ty = some b) : ∃ n, tyN v = some n ∧ kitB n ty.nm = some b := by
  cases v <;> cases ty <;> simp only [Val.isa, Option.some.injEq, reduceCtorEq] at h <;> subst h <;> exact ⟨_, rfl, by decide +kernel⟩
theorem tyX_of {v : Val} {x : V} {n : String} (h : RO z L H L H v x) (e : tyN v = some n) : TyX z.K H x (.type n) := by
  cases v <;> simp only [tyN, Option.some.injEq, reduceCtorEq] at e <;> subst e
  · cases h.non; exact .base .non
  · cases h.bl; exact .base (.bl _)
  · cases h.int; exact .base (.int _)
  · cases h.str; exact .base (.str _)
  · obtain ⟨a, ys, rfl, h1, _⟩ := h.tup
    rcases h1 with (h1 | ⟨o, h1⟩) | ⟨o, _, _, h1, h2, _⟩
    · exact .base (.tup h1)
    · exact .fTuple h1
    · exact .kTuple h1 h2
  · obtain ⟨a, ys, rfl, h1, _⟩ := h.lst
    exact .base (.lst h1)
theorem xisa [F : Fit z X] {a : Expr} {p2 : Pos} (ty : Ty) (hg : Gl X "isinstance") (hm : X.mg "isinstance" = none) (hgT : Gl X (PySem.Str.ofString ty.nm)) (hmT : X.mg (PySem.Str.ofString ty.nm) = none) (ha : PE X a (rd z W (RO z) f))
    (hs1 : starEach [a, Expr.Name (PySem.Str.ofString ty.nm) p2] X.env = (false, eval a X.env) :: starEach [Expr.Name (PySem.Str.ofString ty.nm) p2] X.env := by rfl) (hpl : (backTo pos (starEach [Expr.Name (PySem.Str.ofString ty.nm) p2] X.env)).any (·.1) = false := by rfl) :
    PE X (.Call (.Name "isinstance" p) [a, .Name (PySem.Str.ofString ty.nm) p2] [] pos) (rd z W (RE z) (eUn (uIsa ty) f)) := by
  have hT : PE X (.Name (PySem.Str.ofString ty.nm) p2) (tC (.ty ty.nm)) := pe_bltn hgT hmT (by cases ty <;> decide +kernel) rfl (by cases ty <;> decide) (by cases ty <;> decide)
  refine (pe_callB call_isi hg hm (by decide +kernel) (pa_cons ha (pa_cons hT pa_nil) hs1) (by decide) (by decide) hs1 hpl).imp fun σ H Q h => ?_
  obtain ⟨L0, H0, t0, L, env, t, r, h⟩ := h
  refine ⟨L0, H0, t0, L, env, t, r, ?_⟩
  simp only [eUn] at h
  cases e : f env t with
  | bad => rw [e] at h; exact h
  | exc k t' => rw [e] at h; exact h
  | ok v t1 =>
    rw [e] at h
    simp only [Res.bind_ok, uIsa] at h
    intro x H1 L1 g1 rx
    cases e2 : v.isa ty with
    | none => rw [e2] at h; exact h.elim
    | some b =>
      rw [e2] at h
      obtain ⟨n, e3, e4⟩ := isa_kit e2
      refine ⟨x, .ty ty.nm, .type n, .type ty.nm, b, rfl, .ty _, by rw [F.K]; exact tyX_of (RO.go (.refl g1.ok) rx) e3, kit_ty e4, ?_⟩
      exact h _ H1 L1 g1 (by simp [RE, Rv])
theorem xisaT [F : Fit z X] {a : Expr} {p2 : Pos} {T : PySem.Str} (ty : Ty) (hT : T = PySem.Str.ofString ty.nm) (hg : Gl X "isinstance") (hm : X.mg "isinstance" = none) (hgT : Gl X T) (hmT : X.mg T = none) (ha : PE X a (rd z W (RO z) f))
    (hs1 : starEach [a, Expr.Name T p2] X.env = (false, eval a X.env) :: starEach [Expr.Name T p2] X.env := by rfl) (hpl : (backTo pos (starEach [Expr.Name T p2] X.env)).any (·.1) = false := by rfl) :
    PE X (.Call (.Name "isinstance" p) [a, .Name T p2] [] pos) (rd z W (RE z) (eUn (uIsa ty) f)) := by
  subst hT
  exact xisa ty hg hm hgT hmT ha hs1 hpl
theorem xisa2 [F : Fit z X] {a : Expr} {p2 p3 p4 : Pos} {kk : Nat} (ty ty2 : Ty) (hg : Gl X "isinstance") (hm : X.mg "isinstance" = none) (hgT : Gl X (PySem.Str.ofString ty.nm)) (hmT : X.mg (PySem.Str.ofString ty.nm) = none) (hgT2 : Gl X (PySem.Str.ofString ty2.nm)) (hmT2 : X.mg (PySem.Str.ofString ty2.nm) = none) (ha : PE X a (rd z W (RO z) f))
    (hs1 : starEach [a, Expr.Tuple [Expr.Name (PySem.Str.ofString ty.nm) p2, Expr.Name (PySem.Str.ofString ty2.nm) p3] kk p4] X.env = (false, eval a X.env) :: starEach [Expr.Tuple [Expr.Name (PySem.Str.ofString ty.nm) p2, Expr.Name (PySem.Str.ofString ty2.nm) p3] kk p4] X.env := by rfl)
    (hpl : (backTo pos (starEach [Expr.Tuple [Expr.Name (PySem.Str.ofString ty.nm) p2, Expr.Name (PySem.Str.ofString ty2.nm) p3] kk p4] X.env)).any (·.1) = false := by rfl) :
    PE X (.Call (.Name "isinstance" p) [a, .Tuple [.Name (PySem.Str.ofString ty.nm) p2, .Name (PySem.Str.ofString ty2.nm) p3] kk p4] [] pos) (rd z W (RE z) (eUn (uIsa2 ty ty2) f)) := by
  have hT : PE X (.Name (PySem.Str.ofString ty.nm) p2) (tC (.ty ty.nm)) := pe_bltn hgT hmT (by cases ty <;> decide +kernel) rfl (by cases ty <;> decide) (by cases ty <;> decide)
  have hT2 : PE X (.Name (PySem.Str.ofString ty2.nm) p3) (tC (.ty ty2.nm)) := pe_bltn hgT2 hmT2 (by cases ty2 <;> decide +kernel) rfl (by cases ty2 <;> decide) (by cases ty2 <;> decide)
  refine (pe_callB call_isiT hg hm (by decide +kernel) (pa_cons ha (pa_cons (pe_tup (pa_cons hT (pa_cons hT2 pa_nil))) pa_nil) hs1) (by decide) (by decide) hs1 hpl).imp fun σ H Q h => ?_
  obtain ⟨L0, H0, t0, L, env, t, r, h⟩ := h
  refine ⟨L0, H0, t0, L, env, t, r, ?_⟩
  simp only [eUn] at h
  cases e : f env t with
  | bad => rw [e] at h; exact h
  | exc k t' => rw [e] at h; exact h
  | ok v t1 =>
    rw [e] at h
    simp only [Res.bind_ok, uIsa2] at h
    intro x H1 L1 g1 rx
    cases e2 : v.isa ty with
    | none => rw [e2] at h; exact h.elim
    | some b =>
      rw [e2] at h
      simp only [Option.bind_some] at h
      cases e3 : v.isa ty2 with
      | none => rw [e3] at h; exact h.elim
      | some b2 =>
        rw [e3] at h
        obtain ⟨n, f1, f2⟩ := isa_kit e2
        obtain ⟨n2, f3, f4⟩ := isa_kit e3
        rw [f1] at f3; cases f3
        refine ⟨(show 2 ≤ sizeLine by decide), fun q hq => ?_⟩
        have g2 := Go.upd (o := .tup [.ty ty.nm, .ty ty2.nm]) g1.ok hq
        refine ⟨x, q, _, .type n, [.type ty.nm, .type ty2.nm], b || b2, rfl, upd_same, .cons (.ty _) (.cons (.ty _) .nil), by rw [F.K]; exact tyX_of (RO.go g2 rx) f1, ?_, ?_⟩
        · refine kitAny_cons (kit_ty f2) (fun hb => ?_) (fun hb => by rw [hb]; rfl)
          rw [hb, Bool.false_or]
          exact kitAny_cons (kit_ty f4) (fun hb => by rw [hb]; exact kitAny_nil) (fun hb => hb)
        · exact h _ _ L1 (g1.trans g2) (by simp [RE, Rv])

theorem xisa2T [F : Fit z X] {a : Expr} {p2 p3 p4 : Pos} {kk : Nat} {T T2 : PySem.Str} (ty ty2 : Ty) (hT : T = PySem.Str.ofString ty.nm) (hT2 : T2 = PySem.Str.ofString ty2.nm) (hg : Gl X "isinstance") (hm : X.mg "isinstance" = none) (hgT : Gl X T) (hmT : X.mg T = none) (hgT2 : Gl X T2) (hmT2 : X.mg T2 = none) (ha : PE X a (rd z W (RO z) f))
    (hs1 : starEach [a, Expr.Tuple [Expr.Name T p2, Expr.Name T2 p3] kk p4] X.env = (false, eval a X.env) :: starEach [Expr.Tuple [Expr.Name T p2, Expr.Name T2 p3] kk p4] X.env := by rfl)
    (hpl : (backTo pos (starEach [Expr.Tuple [Expr.Name T p2, Expr.Name T2 p3] kk p4] X.env)).any (·.1) = false := by rfl) :
    PE X (.Call (.Name "isinstance" p) [a, .Tuple [.Name T p2, .Name T2 p3] kk p4] [] pos) (rd z W (RE z) (eUn (uIsa2 ty ty2) f)) := by
  subst hT hT2
  exact xisa2 ty ty2 hg hm hgT hmT hgT2 hmT2 ha hs1 hpl

/-! ### x in xs -/
theorem flat_of : ∀ {v : Val} {x : V}, flat v = true → RO z L H L H v x → flatV x = true
  | .non, _, _, h => by cases h.non; rfl
  | .bl _, _, _, h => by cases h.bl; rfl
  | .int _, _, _, h => by cases h.int; rfl
  | .str _, _, _, h => by cases h.str; rfl
  | .tup _, _, h, _ => by simp [flat] at h
  | .lst _, _, h, _ => by simp [flat] at h
  | .iset _, _, h, _ => by simp [flat] at h
  | .dct _, _, h, _ => by simp [flat] at h
  | .tin, _, h, _ => by simp [flat] at h
  | .fn _, _, h, _ => by simp [flat] at h
  | .scr _, _, h, _ => by simp [flat] at h
theorem flats_of : ∀ {vs : List Val} {ys : List V}, vs.all flat = true → Rvs z L H vs ys → ys.all flatV = true
  | [], _, _, h => by simp only [Rvs] at h; subst h; rfl
  | v :: vs, _, e, h => by
    simp only [Rvs] at h
    obtain ⟨y, r, rfl, h1, h2⟩ := h
    simp only [List.all_cons, Bool.and_eq_true] at e ⊢
    exact ⟨flat_of e.1 (.inl h1), flats_of e.2 h2⟩
theorem veq_eqV {v w : Val} {x y : V} (fv : flat v = true) (fw : flat w = true) (hv : RO z L H L H v x) (hw : RO z L H L H w y) : eqV x y = veq v w := by
  cases v <;> simp only [flat, reduceCtorEq, Bool.false_eq_true] at fv <;> cases w <;> simp only [flat, reduceCtorEq, Bool.false_eq_true] at fw
  all_goals first | (cases hv.non) | (cases hv.bl) | (cases hv.int) | (cases hv.str)
  all_goals first | (cases hw.non) | (cases hw.bl) | (cases hw.int) | (cases hw.str)
  all_goals simp only [eqV, veq, ofString_eq]
  all_goals first | rfl | (rw [Bool.beq_eq_decide_eq]) 
theorem any_eqV {v : Val} {x : V} (fv : flat v = true) (hv : RO z L H L H v x) : ∀ {vs : List Val} {ys : List V}, vs.all flat = true → Rvs z L H vs ys → (ys.any fun y => eqV y x) = vs.any fun y => veq y v
  | [], _, _, h => by simp only [Rvs] at h; subst h; rfl
  | w :: vs, _, e, h => by
    simp only [Rvs] at h
    obtain ⟨y, r, rfl, h1, h2⟩ := h
    simp only [List.all_cons, Bool.and_eq_true] at e
    simp only [List.any_cons]
    rw [veq_eqV e.1 fv (.inl h1) hv, any_eqV fv hv e.2 h2]
theorem RO.seq [F : Fit z X] {v : Val} {x : V} {xs : List Val} (h : RO z L H L H v x) (e : items v = some xs) : ∃ a ys, x = .ref a ∧ (SqL X.K H a ys ∨ SqT X.K H a ys) ∧ Rvs z L H xs ys := by
  cases v <;> simp only [items, Option.some.injEq, reduceCtorEq] at e <;> subst e
  · obtain ⟨a, ys, rfl, h1, r⟩ := h.tup
    exact ⟨a, ys, rfl, .inr (by rw [F.K]; exact h1), r⟩
  · obtain ⟨a, ys, rfl, h1, r⟩ := h.lst
    exact ⟨a, ys, rfl, .inl (.inl (.inl h1)), r⟩
theorem os_in [F : Fit z X] : OpR X (compareOp .In) (rdOp z (RE z) cIn) := by
  intro pins s σ H x y v u Q I rx ry h
  obtain ⟨L, v', w', t, r, ok, hv, hw, e, q⟩ := h
  simp only [cIn] at e
  cases e1 : items w' with
  | none => rw [e1] at e; cases e
  | some xs =>
    rw [e1] at e
    by_cases c : (flat v' && xs.all flat) = true
    · simp only [c, if_true, Option.some.injEq] at e
      subst e
      rw [Bool.and_eq_true] at c
      obtain ⟨a, ys, rfl, h1, r1⟩ := RO.seq (X := X) hw e1
      refine op_in_seq pins s σ H x _ v u Q I rx ry ⟨a, ys, rfl, h1, flat_of c.1 hv, flats_of c.2 r1, ?_⟩
      simp only [Bool.false_eq_true, if_false]
      unfold inV
      rw [any_eqV c.1 hv c.2 r1]
      exact q _ H L (.refl ok) (by simp [RE, Rv])
    · simp only [c, Bool.false_eq_true, if_false] at e; cases e
theorem os_notin [F : Fit z X] : OpR X (compareOp .NotIn) (rdOp z (RE z) cNotIn) := by
  intro pins s σ H x y v u Q I rx ry h
  obtain ⟨L, v', w', t, r, ok, hv, hw, e, q⟩ := h
  simp only [cNotIn] at e
  cases e1 : items w' with
  | none => rw [e1] at e; cases e
  | some xs =>
    rw [e1] at e
    by_cases c : (flat v' && xs.all flat) = true
    · simp only [c, if_true, Option.some.injEq] at e
      subst e
      rw [Bool.and_eq_true] at c
      obtain ⟨a, ys, rfl, h1, r1⟩ := RO.seq (X := X) hw e1
      refine op_notIn_seq pins s σ H x _ v u Q I rx ry ⟨a, ys, rfl, h1, flat_of c.1 hv, flats_of c.2 r1, ?_⟩
      simp only [if_true]
      unfold inV
      rw [any_eqV c.1 hv c.2 r1]
      exact q _ H L (.refl ok) (by simp [RE, Rv])
    · simp only [c, Bool.false_eq_true, if_false] at e; cases e

/-! ### list(range(..)) -/
theorem rg_vals (m n : Int) : Rvs z L H (rangeL m n) (rgV m n) := by
  unfold rangeL rgV
  have : ∀ l : List Nat, Rvs z L H (l.map fun k : Nat => Val.int (m + (k : Int))) (l.map fun i : Nat => V.int (m + (i : Int))) := by
    intro l
    induction l with
    | nil => exact Rvs.nil
    | cons a l ih => exact Rvs.cons (by simp [Rv]) ih
  exact this _
theorem xlrg1 [F : Fit z X] {a : Expr} {p2 p3 : Pos} (hg : Gl X "list") (hm : X.mg "list" = none) (hg2 : Gl X "range") (hm2 : X.mg "range" = none) (ha : PE X a (rd z W (RO z) f))
    (na : starEach [a] X.env = (false, eval a X.env) :: starEach [] X.env := by rfl) (na2 : starEach [Expr.Call (.Name "range" p2) [a] [] p3] X.env = (false, eval (Expr.Call (.Name "range" p2) [a] [] p3) X.env) :: starEach [] X.env := by rfl) :
    PE X (.Call (.Name "list" p) [.Call (.Name "range" p2) [a] [] p3] [] pos) (rd z W (RN z) (eLRg1 f)) := by
  refine (pe_listRg F.calm hg hm (prg_1 hg2 hm2 ha na) na2).imp fun σ H Q h => ?_
  obtain ⟨L0, H0, t0, L, env, t, r, h⟩ := h
  refine ⟨L0, H0, t0, L, env, t, r, ?_⟩
  simp only [eLRg1] at h
  cases e : f env t with
  | bad => rw [e] at h; exact h
  | exc k t' => rw [e] at h; exact h
  | ok v t1 =>
    rw [e] at h
    simp only [Res.bind_ok] at h
    intro x H1 L1 g1 rx
    cases v <;> simp only at h <;> first | exact h.elim | skip
    rename_i n
    by_cases c : -(lim : Int) ≤ n ∧ n ≤ lim
    · rw [if_pos c] at h
      cases rx.int
      have : (lim : Int) = 1000000 := rfl
      rw [this] at c
      refine ⟨n, rfl, ⟨by omega, by omega, by omega, by omega, by omega⟩, fun q hq => ?_⟩
      exact newN g1.ok (rg_vals 0 n) (fun u H' L' g2 r2 => h u H' L' (g1.trans g2) (RN.back.go g1 r2)) hq
    · rw [if_neg c] at h; exact h.elim
theorem xlrg2 [F : Fit z X] {g : E} {a b : Expr} {p2 p3 : Pos} (hg : Gl X "list") (hm : X.mg "list" = none) (hg2 : Gl X "range") (hm2 : X.mg "range" = none) (ha : PE X a (rd z W (RO z) f)) (hb : PE X b (rd z W (RO z) g))
    (na : starEach [a, b] X.env = (false, eval a X.env) :: starEach [b] X.env := by rfl) (nb : starEach [b] X.env = (false, eval b X.env) :: starEach [] X.env := by rfl) (hpl : (backTo p3 (starEach [b] X.env)).any (·.1) = false := by rfl)
    (na2 : starEach [Expr.Call (.Name "range" p2) [a, b] [] p3] X.env = (false, eval (Expr.Call (.Name "range" p2) [a, b] [] p3) X.env) :: starEach [] X.env := by rfl) :
    PE X (.Call (.Name "list" p) [.Call (.Name "range" p2) [a, b] [] p3] [] pos) (rd z W (RN z) (eLRg2 f g)) := by
  refine (pe_listRg F.calm hg hm (prg_2 hg2 hm2 ha hb na nb hpl) na2).imp fun σ H Q h => ?_
  obtain ⟨L0, H0, t0, L, env, t, r, h⟩ := h
  refine ⟨L0, H0, t0, L, env, t, r, ?_⟩
  simp only [eLRg2] at h
  cases e : f env t with
  | bad => rw [e] at h; exact h
  | exc k t' => rw [e] at h; exact h
  | ok v t1 =>
    rw [e] at h
    simp only [Res.bind_ok] at h
    intro x H1 L1 g1 rx
    refine ⟨L0, H0, t0, L1, env, t1, r.go g1, ?_⟩
    cases e2 : g env t1 with
    | bad => rw [e2] at h; exact h
    | exc k t' => rw [e2] at h; exact fun H' L' g2 => h H' L' (g1.trans g2)
    | ok w t2 =>
      rw [e2] at h
      simp only [Res.bind_ok] at h
      intro y H2 L2 g2 ry
      cases v <;> cases w <;> simp only at h <;> first | exact h.elim | skip
      rename_i m n
      by_cases c : -(lim : Int) ≤ m ∧ m ≤ lim ∧ -(lim : Int) ≤ n ∧ n ≤ lim
      · rw [if_pos c] at h
        cases (RO.go g2 rx).int
        cases ry.int
        have : (lim : Int) = 1000000 := rfl
        rw [this] at c
        refine ⟨m, n, rfl, rfl, ⟨by omega, by omega, by omega, by omega, by omega⟩, fun q hq => ?_⟩
        exact newN g2.ok (rg_vals m n) (fun u H' L' g3 r2 => h u H' L' ((g1.trans g2).trans g3) (RN.back.go (g1.trans g2) r2)) hq
      · rw [if_neg c] at h; exact h.elim
end
end Nf

namespace Nf
open PySem PySem.Spec PyProof.Rows L2
section
variable {z : Cz} {W : Wx} {X : Cx} {L L0 : Lk} {H H0 : Hp} {t t0 : Tin} {R : Rr} {pos p : Pos} {env : Env} {σ : List (Option V)}

/-! ### lists of the frame's own -/
theorem ownL_some {i : Nat} {xs : List Val} (e : ownL i env = some xs) : env[i]? = some (some (true, .lst xs)) := by
  unfold ownL at e
  split at e
  · rename_i ys h
    cases e; exact h
  · cases e
/-- a list of the frame's own is changed -/
theorem RelS.ownL {i : Nat} {xs : List Val} (r : RelS z L0 H0 t0 L env t σ H) (e : Nf.ownL i env = some xs) : ∃ a ys, σ[i]? = some (some (.ref a)) ∧ H a = some (.lst ys) ∧ Rvs z L H xs ys ∧
    ∀ xs' ys', Rvs z L H xs' ys' → RelS z L0 H0 t0 L (putL i xs' env) t σ (upd H a (.lst ys')) ∧ Keep L H L (upd H a (.lst ys')) := by
  have e := ownL_some e
  obtain ⟨oa, h1, h2⟩ := r.own
  obtain ⟨eσ, nl, n0, nta, ov⟩ := h1 i _ e
  obtain ⟨ys, hy, ry⟩ := ov
  refine ⟨oa i, ys, eσ, hy, ry, fun xs' ys' r' => ?_⟩
  have kk : Keep L H L (upd H (oa i) (.lst ys')) := Keep.at nl hy
  have hi : i < env.length := by
    rcases Nat.lt_or_ge i env.length with h | h
    · exact h
    · rw [List.getElem?_eq_none h] at e; cases e
  refine ⟨?_, kk⟩
  refine ⟨⟨r.base.1, r.base.2.1, fun a o ha hta => ?_, r.base.2.2.2⟩, ⟨fun a la => ?_, fun a ea => ⟨(r.ok.2 a ea).1, ?_⟩⟩, ?_, fun j v ej => ?_, oa, fun j v ej => ?_, fun j k v w ej ek n => ?_⟩
  · have n : a ≠ oa i := fun q => by subst q; rw [n0] at ha; cases ha
    rw [upd_ne n]; exact r.base.2.2.1 a o ha hta
  · by_cases n : a = oa i
    · subst n; exact ⟨_, upd_same⟩
    · rw [upd_ne n]; exact r.ok.1 a la
  · have n : a ≠ oa i := fun q => by subst q; exact nta ea
    rw [upd_ne n]; exact (r.ok.2 a ea).2
  · unfold putL; rw [List.length_set]; exact r.len
  · unfold putL at ej
    by_cases q : i = j
    · subst q; rw [getElem?_set_self' hi] at ej; cases ej
    · rw [getElem?_set_ne' q] at ej
      obtain ⟨x, hx, rx⟩ := r.val j v ej
      exact ⟨x, hx, Rv.keep kk v rx⟩
  · unfold putL at ej
    by_cases q : i = j
    · subst q
      rw [getElem?_set_self' hi] at ej; cases ej
      exact ⟨eσ, nl, n0, nta, ys', upd_same, Rvs.keep kk _ r'⟩
    · rw [getElem?_set_ne' q] at ej
      obtain ⟨a1, a2, a3, a4, a5⟩ := h1 j v ej
      have n : oa j ≠ oa i := h2 j i v _ ej e (Ne.symm q)
      exact ⟨a1, a2, a3, a4, a5.keep kk fun o eo => by rw [upd_ne n]; exact eo⟩
  · unfold putL at ej ek
    have fix : ∀ {j : Nat} {v : Val}, (env.set i (some (true, .lst xs')))[j]? = some (some (true, v)) → ∃ v', env[j]? = some (some (true, v')) := fun {j v} ej => by
      by_cases q : i = j
      · subst q; exact ⟨_, e⟩
      · rw [getElem?_set_ne' q] at ej; exact ⟨_, ej⟩
    obtain ⟨v', e1⟩ := fix ej
    obtain ⟨w', e2⟩ := fix ek
    exact h2 j k v' w' e1 e2 n
/-- a slot takes a new list -/
theorem RelS.putOwn {i : Nat} {xs : List Val} {ys : List V} {a : Addr} (r : RelS z L0 H0 t0 L env t σ H) (hi : i < env.length) (ha : H a = some (.lst ys)) (nl : ¬ L a) (n0 : H0 a = none) (nta : z.ta ≠ some a) (ry : Rvs z L H xs ys)
    (hd : ∀ (j : Nat) (v : Val), env[j]? = some (some (true, v)) → σ[j]? ≠ some (some (V.ref a))) : RelS z L0 H0 t0 L (env.set i (some (true, .lst xs))) t (σ.set i (some (V.ref a))) H := by
  obtain ⟨oa, h1, h2⟩ := r.own
  have hs : i < σ.length := by rw [← r.len]; exact hi
  refine ⟨r.base, r.ok, by rw [List.length_set, List.length_set]; exact r.len, fun j v ej => ?_, fun j => if j = i then a else oa j, fun j v ej => ?_, fun j k v w ej ek n => ?_⟩
  · by_cases q : i = j
    · subst q; rw [getElem?_set_self' hi] at ej; cases ej
    · rw [getElem?_set_ne' q] at ej ⊢; exact r.val j v ej
  · by_cases q : i = j
    · subst q
      rw [getElem?_set_self' hi] at ej; cases ej
      rw [getElem?_set_self' hs]
      simp only [if_true]
      exact ⟨trivial, nl, n0, nta, ys, ha, ry⟩
    · rw [getElem?_set_ne' q] at ej ⊢
      simp only [if_neg (Ne.symm q)]; exact h1 j v ej
  · have ne : ∀ j v, i ≠ j → (env.set i (some (true, .lst xs)))[j]? = some (some (true, v)) → oa j ≠ a := fun j v q ej e => by
      rw [getElem?_set_ne' q] at ej
      exact hd j v ej (by rw [(h1 j v ej).1, e])
    by_cases q : i = j <;> by_cases q2 : i = k
    · subst q; subst q2; exact absurd rfl n
    · subst q; simp only [if_true, if_neg (Ne.symm q2)]; exact Ne.symm (ne k w q2 ek)
    · subst q2; simp only [if_true, if_neg (Ne.symm q)]; exact ne j v q ej
    · simp only [if_neg (Ne.symm q), if_neg (Ne.symm q2)]
      rw [getElem?_set_ne' q] at ej; rw [getElem?_set_ne' q2] at ek
      exact h2 j k v w ej ek n
/-- every own list is given away -/
theorem RelS.frzAll (r : RelS z L0 H0 t0 L env t σ H) : ∃ L', RelS z L0 H0 t0 L' (Nf.frzAll env) t σ H := by
  obtain ⟨oa, h1, h2⟩ := r.own
  have up : Keep L H (fun b => L b ∨ ∃ i v, env[i]? = some (some (true, v)) ∧ b = oa i) H := ⟨fun _ h => .inl h, fun _ _ h _ => h⟩
  refine ⟨fun b => L b ∨ ∃ i v, env[i]? = some (some (true, v)) ∧ b = oa i, ⟨fun a h => .inl (r.base.1 a h), fun a h => ?_, r.base.2.2.1, r.base.2.2.2⟩, ⟨fun a h => ?_, fun a e => ⟨fun h => ?_, (r.ok.2 a e).2⟩⟩, by unfold Nf.frzAll; rw [List.length_map]; exact r.len, fun i v e => ?_, oa, fun i v e => ?_, fun i j v w e => ?_⟩
  · rcases h with h | ⟨i, v, e, rfl⟩
    · exact r.base.2.1 a h
    · exact .inr (h1 i v e).2.2.1
  · rcases h with h | ⟨i, v, e, rfl⟩
    · exact r.ok.1 a h
    · exact (h1 i v e).2.2.2.2.there
  · rcases h with h | ⟨i, v, e', rfl⟩
    · exact (r.ok.2 a e).1 h
    · exact (h1 i v e').2.2.2.1 e
  · unfold Nf.frzAll at e
    rw [List.getElem?_map] at e
    cases q : env[i]? with
    | none => rw [q] at e; cases e
    | some o =>
      rw [q] at e
      match o, q, e with
      | none, _, e => cases e
      | some (false, u), q, e =>
        cases e
        obtain ⟨x, hx, rx⟩ := r.val i _ q
        exact ⟨x, hx, Rv.keep up _ rx⟩
      | some (true, u), q, e =>
        cases e
        obtain ⟨a1, a2, a3, a4, a5⟩ := h1 i _ q
        refine ⟨_, a1, ?_⟩
        cases u <;> first | exact a5.elim | skip
        obtain ⟨ys, b1, b2⟩ := a5
        simp only [Rv]
        exact ⟨_, ys, rfl, .inr ⟨i, _, q, rfl⟩, b1, Rvs.keep up _ b2⟩
  · unfold Nf.frzAll at e
    rw [List.getElem?_map] at e
    cases q : env[i]? with
    | none => rw [q] at e; cases e
    | some o => rw [q] at e; cases o <;> cases e
  · unfold Nf.frzAll at e
    rw [List.getElem?_map] at e
    cases q : env[i]? with
    | none => rw [q] at e; cases e
    | some o => rw [q] at e; cases o <;> cases e
/-- one own list is given away -/
theorem RelS.frz1 (i : Nat) (r : RelS z L0 H0 t0 L env t σ H) : ∃ L', RelS z L0 H0 t0 L' (Nf.frz1 i env) t σ H ∧ Keep L H L' H := by
  obtain ⟨oa, h1, h2⟩ := r.own
  cases q : env[i]? with
  | none => refine ⟨L, ?_, .refl _ _⟩; unfold Nf.frz1; rw [q]; exact r
  | some o =>
    cases o with
    | none => refine ⟨L, ?_, .refl _ _⟩; unfold Nf.frz1; rw [q]; exact r
    | some pv =>
      obtain ⟨b, u⟩ := pv
      have hi : i < env.length := by
        rcases Nat.lt_or_ge i env.length with h | h
        · exact h
        · rw [List.getElem?_eq_none h] at q; cases q
      have e0 : Nf.frz1 i env = env.set i (some (false, u)) := by unfold Nf.frz1; rw [q]
      rw [e0]
      cases b with
      | false =>
        refine ⟨L, ?_, .refl _ _⟩
        have : env.set i (some (false, u)) = env := by
          apply List.ext_getElem?
          intro j
          by_cases h : i = j
          · subst h; rw [getElem?_set_self' hi, q]
          · rw [getElem?_set_ne' h]
        rw [this]; exact r
      | true =>
        obtain ⟨a1, a2, a3, a4, a5⟩ := h1 i _ q
        cases u <;> first | exact a5.elim | skip
        obtain ⟨ys, b1, b2⟩ := a5
        have up : Keep L H (lockAt L (oa i)) H := Keep.lock
        refine ⟨lockAt L (oa i), ⟨⟨fun a h => .inl (r.base.1 a h), fun a h => ?_, r.base.2.2.1, r.base.2.2.2⟩, ⟨fun a h => ?_, fun a e => ⟨fun h => ?_, (r.ok.2 a e).2⟩⟩, by rw [List.length_set]; exact r.len, fun j v e => ?_, oa, fun j v e => ?_, fun j k v w ej ek n => ?_⟩, up⟩
        · rcases h with h | rfl
          · exact r.base.2.1 a h
          · exact .inr a3
        · rcases h with h | rfl
          · exact r.ok.1 a h
          · exact ⟨_, b1⟩
        · rcases h with h | rfl
          · exact (r.ok.2 a e).1 h
          · exact a4 e
        · by_cases h : i = j
          · subst h
            rw [getElem?_set_self' hi] at e
            cases e
            refine ⟨_, a1, ?_⟩
            simp only [Rv]
            exact ⟨_, ys, rfl, .inr rfl, b1, Rvs.keep up _ b2⟩
          · rw [getElem?_set_ne' h] at e
            obtain ⟨x, hx, rx⟩ := r.val j v e
            exact ⟨x, hx, Rv.keep up v rx⟩
        · by_cases h : i = j
          · subst h; rw [getElem?_set_self' hi] at e; cases e
          · rw [getElem?_set_ne' h] at e
            obtain ⟨c1, c2, c3, c4, c5⟩ := h1 j v e
            refine ⟨c1, fun l => ?_, c3, c4, c5.keep up fun _ h => h⟩
            rcases l with l | l
            · exact c2 l
            · exact h2 j i v _ e q (Ne.symm h) l
        · have n1 : i ≠ j := fun h => by subst h; rw [getElem?_set_self' hi] at ej; cases ej
          have n2 : i ≠ k := fun h => by subst h; rw [getElem?_set_self' hi] at ek; cases ek
          rw [getElem?_set_ne' n1] at ej; rw [getElem?_set_ne' n2] at ek
          exact h2 j k v w ej ek n

/-! ### statements -/
def rdX (z : Cz) (W : Wx) (f : Nf.S) : TS := fun D σ H => ∃ L0 H0 t0 L env t, RelS z L0 H0 t0 L env t σ H ∧ match f env t with
  | .nx env' t' => ∀ σ' H' L', RelS z L0 H0 t0 L' env' t' σ' H' → Keep L H L' H' → D.nx σ' H'
  | .bk env' t' => ∀ σ' H' L', RelS z L0 H0 t0 L' env' t' σ' H' → Keep L H L' H' → D.bk σ' H'
  | .ct env' t' => ∀ σ' H' L', RelS z L0 H0 t0 L' env' t' σ' H' → Keep L H L' H' → D.ct σ' H'
  | .rt v t' => ∀ x H' L', Go z L0 H0 t0 L' H' t' → Rv z L' H' v x → D.rt x H'
  | .exc k t' => ∀ H' L', Go z L0 H0 t0 L' H' t' → W k H'
  | .bad => False
variable {st : Stmt} {rest : List Stmt} {f g : Nf.S}
theorem xss_nil : PSs X [] (rdX z W sNil) := pss_nil.imp fun D σ H h => by
  obtain ⟨L0, H0, t0, L, env, t, r, h⟩ := h
  exact h σ H L r (.refl _ _)
theorem xss_cons (h1 : PS X st (rdX z W f)) (h2 : PSs X rest (rdX z W g)) : PSs X (st :: rest) (rdX z W (sSeq f g)) := (pss_cons h1 h2).imp fun D σ H h => by
  obtain ⟨L0, H0, t0, L, env, t, r, h⟩ := h
  refine ⟨L0, H0, t0, L, env, t, r, ?_⟩
  simp only [sSeq] at h
  cases e : f env t with
  | bad => rw [e] at h; exact h
  | exc k t' => rw [e] at h; exact h
  | rt v t' => rw [e] at h; exact h
  | bk e' t' => rw [e] at h; exact h
  | ct e' t' => rw [e] at h; exact h
  | nx env1 t1 =>
    rw [e] at h
    simp only at h
    intro σ1 H1 L1 r1 k1
    refine ⟨L0, H0, t0, L1, env1, t1, r1, ?_⟩
    cases e2 : g env1 t1 with
    | bad => rw [e2] at h; exact h
    | exc k t' => rw [e2] at h; exact h
    | rt v t' => rw [e2] at h; exact h
    | bk e' t' => rw [e2] at h; exact fun σ' H' L' r' k' => h σ' H' L' r' (k1.trans k')
    | ct e' t' => rw [e2] at h; exact fun σ' H' L' r' k' => h σ' H' L' r' (k1.trans k')
    | nx e' t' => rw [e2] at h; exact fun σ' H' L' r' k' => h σ' H' L' r' (k1.trans k')
theorem xss_one (h1 : PS X st (rdX z W f)) : PSs X [st] (rdX z W f) := pss_one h1
/-- a ghost step ahead of a statement: the own list at i is given away -/
theorem rd_frz {i : Nat} {D : Ends} {σ H} (h : rdX z W (sFrz i f) D σ H) : rdX z W f D σ H := by
  obtain ⟨L0, H0, t0, L, env, t, r, h⟩ := h
  obtain ⟨L1, r1, k1⟩ := r.frz1 i
  refine ⟨L0, H0, t0, L1, _, t, r1, ?_⟩
  simp only [sFrz] at h
  cases e : f (Nf.frz1 i env) t with
  | bad => rw [e] at h; exact h
  | exc k t' => rw [e] at h; exact h
  | rt v t' => rw [e] at h; exact h
  | bk e' t' => rw [e] at h; exact fun σ' H' L' r' k' => h σ' H' L' r' (k1.trans k')
  | ct e' t' => rw [e] at h; exact fun σ' H' L' r' k' => h σ' H' L' r' (k1.trans k')
  | nx e' t' => rw [e] at h; exact fun σ' H' L' r' k' => h σ' H' L' r' (k1.trans k')
theorem xfrz (i : Nat) (h : PS X st (rdX z W f)) : PS X st (rdX z W (sFrz i f)) := h.imp fun _ _ _ => rd_frz
theorem xbreak : PS X (.Break pos) (rdX z W sBreak) := ps_break.imp fun D σ H h => by
  obtain ⟨L0, H0, t0, L, env, t, r, h⟩ := h
  exact h σ H L r (.refl _ _)
theorem xcont : PS X (.Continue pos) (rdX z W sCont) := ps_continue.imp fun D σ H h => by
  obtain ⟨L0, H0, t0, L, env, t, r, h⟩ := h
  exact h σ H L r (.refl _ _)
theorem xpass : PS X (.Pass pos) (rdX z W sNil) := ps_pass.imp fun D σ H h => by
  obtain ⟨L0, H0, t0, L, env, t, r, h⟩ := h
  exact h σ H L r (.refl _ _)
/-- a statement that is never reached -/
theorem xbad : PS X st (rdX z W sBad) := ps_never.imp fun D σ H h => by
  obtain ⟨L0, H0, t0, L, env, t, r, h⟩ := h
  exact h
variable {e : Expr} {fe : E} {c : Expr} {ct : T}
theorem xret (he : PE X e (rd z W (RE z) fe)) : PS X (.Return (some e) pos) (rdX z W (sRet fe)) := (ps_ret he).imp fun D σ H h => by
  obtain ⟨L0, H0, t0, L, env, t, r, h⟩ := h
  obtain ⟨L1, r1⟩ := r.frzAll
  refine ⟨L0, H0, t0, L1, _, t, r1, ?_⟩
  simp only [sRet] at h
  cases e : fe (frzAll env) t with
  | bad => rw [e] at h; exact h
  | exc k t' => rw [e] at h; exact fun H' L' g => h H' L' (r1.base'.trans g)
  | ok v t' => rw [e] at h; exact fun x H' L' g rv => h x H' L' (r1.base'.trans g) rv
theorem xif' {a b : List Stmt} (hc : PT X c (rdT z W ct)) (ha : PSs X a (rdX z W f)) (hb : PSs X b (rdX z W g)) : PS X (.If c a b pos) (rdX z W (sIf ct f g)) := (ps_if hc ha hb).imp fun D σ H h => by
  obtain ⟨L0, H0, t0, L, env, t, r, h⟩ := h
  refine ⟨L0, H0, t0, L, env, t, r, ?_⟩
  simp only [sIf] at h
  have fin : ∀ (s : Nf.S) (L1 : Lk) (H1 : Hp) (t1 : Tin), Go z L H t L1 H1 t1 → (match s env t1 with
      | .nx env' t' => ∀ σ' H' L', RelS z L0 H0 t0 L' env' t' σ' H' → Keep L H L' H' → D.nx σ' H'
      | .bk env' t' => ∀ σ' H' L', RelS z L0 H0 t0 L' env' t' σ' H' → Keep L H L' H' → D.bk σ' H'
      | .ct env' t' => ∀ σ' H' L', RelS z L0 H0 t0 L' env' t' σ' H' → Keep L H L' H' → D.ct σ' H'
      | .rt v t' => ∀ x H' L', Go z L0 H0 t0 L' H' t' → Rv z L' H' v x → D.rt x H'
      | .exc k t' => ∀ H' L', Go z L0 H0 t0 L' H' t' → W k H'
      | .bad => False) → rdX z W s D σ H1 := fun s L1 H1 t1 g1 h => by
    refine ⟨L0, H0, t0, L1, env, t1, r.go g1, ?_⟩
    cases e : s env t1 with
    | bad => rw [e] at h; exact h
    | exc k t' => rw [e] at h; exact h
    | rt v t' => rw [e] at h; exact h
    | bk e' t' => rw [e] at h; exact fun σ' H' L' r' k' => h σ' H' L' r' (g1.keep.trans k')
    | ct e' t' => rw [e] at h; exact fun σ' H' L' r' k' => h σ' H' L' r' (g1.keep.trans k')
    | nx e' t' => rw [e] at h; exact fun σ' H' L' r' k' => h σ' H' L' r' (g1.keep.trans k')
  cases e : ct env t with
  | bad => rw [e] at h; exact h
  | exc k t' => rw [e] at h; exact fun H' L' g => h H' L' (r.base'.trans g)
  | ok b t1 =>
    rw [e] at h
    simp only [Res.toS_ok] at h
    intro H1 L1 g1
    cases b with
    | true =>
      rw [if_pos rfl] at h ⊢
      exact fin f L1 H1 t1 g1 h
    | false =>
      rw [if_neg (by decide)] at h ⊢
      exact fin g L1 H1 t1 g1 h
/-! ### stores -/
theorem rd_asg {tg : Nf.G} {is : List Nat} {D : Ends} {σ H} (h : rdX z W (sAsg tg fe) D σ H) : tAsg (rd z W (RE z) fe) (rdG z tg is) D σ H := by
  obtain ⟨L0, H0, t0, L, env, t, r, h⟩ := h
  refine ⟨L0, H0, t0, L, env, t, r, ?_⟩
  simp only [sAsg] at h
  cases e : fe env t with
  | bad => rw [e] at h; exact h
  | exc k t' => rw [e] at h; exact fun H' L' g => h H' L' (r.base'.trans g)
  | ok v t1 =>
    rw [e] at h
    simp only [Res.toS_ok] at h
    intro x H1 L1 g1 rx
    refine ⟨L0, H0, t0, L1, env, t1, v, r.go g1, rx, ?_⟩
    cases e2 : tg v env with
    | none => rw [e2] at h; exact h.elim
    | some env' =>
      rw [e2] at h
      exact fun σ' r' _ => h σ' H1 L1 r' g1.keep
/-- target = e -/
theorem xasg {tg : Expr} {gg : Nf.G} {is : List Nat} (he : PE X e (rd z W (RE z) fe)) (hg : PG X tg (rdG z gg is)) (hs : swapsWithSole [tg] e pos.line X.env = pure false := by rfl) (hw : swappedStores [tg] e X.env = pure none := by rfl)
    (h1 : (assignEach [tg] X.env).map (·.2) = [assign tg X.env] := by rfl) : PS X (.Assign [tg] e pos) (rdX z W (sAsg gg fe)) := (ps_asg he hg hs hw h1).imp fun _ _ _ => rd_asg
/-- what a name takes -/
theorem rd_set {i : Nat} {D : Ends} {σ H} (h : rdX z W (sAsg (Nf.gName i) fe) D σ H) : tAsg (rd z W (RE z) fe) (L2.gName i) D σ H := by
  obtain ⟨L0, H0, t0, L, env, t, r, h⟩ := h
  refine ⟨L0, H0, t0, L, env, t, r, ?_⟩
  simp only [sAsg] at h
  cases e : fe env t with
  | bad => rw [e] at h; exact h
  | exc k t' => rw [e] at h; exact fun H' L' g => h H' L' (r.base'.trans g)
  | ok v t1 =>
    rw [e] at h
    simp only [Res.toS_ok, Nf.gName] at h
    intro x H1 L1 g1 rx
    by_cases hl : i < env.length
    · rw [if_pos hl] at h
      exact h _ H1 L1 ((r.go g1).put rx hl) g1.keep
    · rw [if_neg hl] at h; exact h.elim
theorem xset (i : Nat) {x : PySem.Str} (hN : X.N.Nodup) (hi : X.N[i]? = some x) (hx : Loc X.env.scope x) (he : PE X e (rd z W (RE z) fe)) (hs : swapsWith e (some (.Name x p)) pos.line X.env = pure false := by rfl)
    (hf : X.fn x = true ∨ X.env.scope.names.lookup x = some .local := by first | exact .inl rfl | exact .inr rfl | assumption) : PS X (.Assign [.Name x p] e pos) (rdX z W (sAsg (Nf.gName i) fe)) :=
  (ps_set hN hi hx he hs hf).imp fun _ _ _ => rd_set
theorem rd_setO {i : Nat} {D : Ends} {σ H} (h : rdX z W (sAsgO i fe) D σ H) : tAsg (rd z W (RN z) fe) (L2.gName i) D σ H := by
  obtain ⟨L0, H0, t0, L, env, t, r, h⟩ := h
  refine ⟨L0, H0, t0, L, env, t, r, ?_⟩
  simp only [sAsgO] at h
  cases e : fe env t with
  | bad => rw [e] at h; exact h
  | exc k t' => rw [e] at h; exact fun H' L' g => h H' L' (r.base'.trans g)
  | ok v t1 =>
    rw [e] at h
    simp only [Res.toS_ok] at h
    intro x H1 L1 g1 rx
    obtain ⟨vs, a, ys, rfl, rfl, ha, nl, ha', rv⟩ := rx
    by_cases hl : i < env.length
    · rw [if_pos hl] at h
      refine h _ H1 L1 ((r.go g1).putOwn hl ha' nl (r.base'.free ha) (r.ok.ta_ne ha) rv fun j v ej es => ?_) g1.keep
      obtain ⟨oa, h1, _⟩ := r.own
      obtain ⟨e1, _, _, _, o⟩ := h1 j v ej
      rw [e1] at es; cases es
      obtain ⟨u, eu⟩ := o.there
      rw [ha] at eu; cases eu
    · rw [if_neg hl] at h; exact h.elim
theorem xsetO (i : Nat) {x : PySem.Str} (hN : X.N.Nodup) (hi : X.N[i]? = some x) (hx : Loc X.env.scope x) (he : PE X e (rd z W (RN z) fe)) (hs : swapsWith e (some (.Name x p)) pos.line X.env = pure false := by rfl)
    (hf : X.fn x = true ∨ X.env.scope.names.lookup x = some .local := by first | exact .inl rfl | exact .inr rfl | assumption) : PS X (.Assign [.Name x p] e pos) (rdX z W (sAsgO i fe)) :=
  (ps_set hN hi hx he hs hf).imp fun _ _ _ => rd_setO
/-- name = [..] of a comprehension on the same line -/
theorem xsetLc [F : Fit z X] (i : Nat) {x : PySem.Str} {it : Nf.It} {g : Nf.G} {cc : T} {f : E} {is : List Nat} {elt tg iter : Expr} {ifs : List Expr} {scope : Scope} {own : List (PySem.Str × Nat)} {spos : Pos} (ns : List Nat) (hN : X.N.Nodup) (hy : X.N[i]? = some x) (hyl : X.env.scope.names.lookup x = some .local)
    (hsw : swapsWith (.ListComp elt [⟨tg, iter, ifs, 0⟩] scope pos) (some (.Name x p)) spos.line X.env = pure true)
    (hi : PI X tg iter (rdIG z W it)) (ok : BlkOk X.N X.env.scope scope own) (hns : ns = own.map (·.2))
    (hg : ∀ (s : Shared) (H : Hp) (C : Addr) (cl : List (PySem.Str × Addr)) (fp : List Addr), PG (X.blk s H scope (compEnvC scope cl C X.env) fp) tg (rdG z g is))
    (ht : ∀ (s : Shared) (H : Hp) (C : Addr) (cl : List (PySem.Str × Addr)) (fp : List Addr), PTs (X.blk s H scope (compEnvC scope cl C X.env) fp) ifs (rdT z W0 cc))
    (he : ∀ (s : Shared) (H : Hp) (C : Addr) (cl : List (PySem.Str × Addr)) (fp : List Addr), PE (X.blk s H scope (compEnvC scope cl C X.env) fp) elt (rd z W0 (RE z) f))
    (hsub : ∀ i ∈ is, i ∈ ns := by decide) (hs : ∀ x, foldedSetIterable iter X.env x = pure x := by intro _; rfl) :
    PS X (.Assign [.Name x p] (.ListComp elt [⟨tg, iter, ifs, 0⟩] scope pos) spos) (rdX z W (sAsgO i (eComp it g ns cc f))) := by
  subst hns
  refine (ps_setLc F.calm hN hy hyl hsw hi ok hg ht he hs).imp fun D σ H h => ?_
  have h2 := rd_setO h
  exact rd_comp (tg := fun _ _ => none) hsub h2
/-- the same, the list given away at once -/
theorem xsetLcF [F : Fit z X] (i : Nat) {x : PySem.Str} {it : Nf.It} {g : Nf.G} {cc : T} {f : E} {is : List Nat} {elt tg iter : Expr} {ifs : List Expr} {scope : Scope} {own : List (PySem.Str × Nat)} {spos : Pos} (ns : List Nat) (hN : X.N.Nodup) (hy : X.N[i]? = some x) (hyl : X.env.scope.names.lookup x = some .local)
    (hsw : swapsWith (.ListComp elt [⟨tg, iter, ifs, 0⟩] scope pos) (some (.Name x p)) spos.line X.env = pure true)
    (hi : PI X tg iter (rdIG z W it)) (ok : BlkOk X.N X.env.scope scope own) (hns : ns = own.map (·.2))
    (hg : ∀ (s : Shared) (H : Hp) (C : Addr) (cl : List (PySem.Str × Addr)) (fp : List Addr), PG (X.blk s H scope (compEnvC scope cl C X.env) fp) tg (rdG z g is))
    (ht : ∀ (s : Shared) (H : Hp) (C : Addr) (cl : List (PySem.Str × Addr)) (fp : List Addr), PTs (X.blk s H scope (compEnvC scope cl C X.env) fp) ifs (rdT z W0 cc))
    (he : ∀ (s : Shared) (H : Hp) (C : Addr) (cl : List (PySem.Str × Addr)) (fp : List Addr), PE (X.blk s H scope (compEnvC scope cl C X.env) fp) elt (rd z W0 (RE z) f))
    (hsub : ∀ i ∈ is, i ∈ ns := by decide) (hs : ∀ x, foldedSetIterable iter X.env x = pure x := by intro _; rfl) :
    PS X (.Assign [.Name x p] (.ListComp elt [⟨tg, iter, ifs, 0⟩] scope pos) spos) (rdX z W (sAsg (Nf.gName i) (eComp it g ns cc f))) := by
  subst hns
  refine (ps_setLc F.calm hN hy hyl hsw hi ok hg ht he hs).imp fun D σ H h => ?_
  have h2 := rd_set h
  exact rd_comp (tg := fun _ _ => none) hsub (rdEN h2)
end
end Nf

namespace Nf
open PySem PySem.Spec PyProof.Rows L2
section
variable {z : Cz} {W : Wx} {X : Cx} {L L0 : Lk} {H H0 : Hp} {t t0 : Tin} {R : Rr} {pos p : Pos} {env : Env} {σ : List (Option V)} {e : Expr} {fe fi : E} {c : Expr} {ct : T} {f : Nf.S}

/-! ### loops -/
/-- what is owed at an end -/
def Owe (z : Cz) (W : Wx) (L0 : Lk) (H0 : Hp) (t0 : Tin) (L : Lk) (H : Hp) (D : Ends) : RS → Prop
  | .nx env' t' => ∀ σ' H' L', RelS z L0 H0 t0 L' env' t' σ' H' → Keep L H L' H' → D.nx σ' H'
  | .bk env' t' => ∀ σ' H' L', RelS z L0 H0 t0 L' env' t' σ' H' → Keep L H L' H' → D.bk σ' H'
  | .ct env' t' => ∀ σ' H' L', RelS z L0 H0 t0 L' env' t' σ' H' → Keep L H L' H' → D.ct σ' H'
  | .rt v t' => ∀ x H' L', Go z L0 H0 t0 L' H' t' → Rv z L' H' v x → D.rt x H'
  | .exc k t' => ∀ H' L', Go z L0 H0 t0 L' H' t' → W k H'
  | .bad => False
theorem rdX_eq {D : Ends} {σ H} : rdX z W f D σ H = ∃ L0 H0 t0 L env t, RelS z L0 H0 t0 L env t σ H ∧ Owe z W L0 H0 t0 L H D (f env t) := by
  unfold rdX
  apply propext
  constructor
  · rintro ⟨L0, H0, t0, L, env, t, r, h⟩
    refine ⟨L0, H0, t0, L, env, t, r, ?_⟩
    cases e : f env t <;> rw [e] at h <;> exact h
  · rintro ⟨L0, H0, t0, L, env, t, r, h⟩
    refine ⟨L0, H0, t0, L, env, t, r, ?_⟩
    cases e : f env t <;> rw [e] at h <;> exact h
theorem Owe.keep {L' : Lk} {H' : Hp} {D : Ends} {r : RS} (k : Keep L H L' H') (h : Owe z W L0 H0 t0 L H D r) : Owe z W L0 H0 t0 L' H' D r := by
  cases r with
  | nx e t => exact fun σ1 H1 L1 r1 k1 => h σ1 H1 L1 r1 (k.trans k1)
  | bk e t => exact fun σ1 H1 L1 r1 k1 => h σ1 H1 L1 r1 (k.trans k1)
  | ct e t => exact fun σ1 H1 L1 r1 k1 => h σ1 H1 L1 r1 (k.trans k1)
  | rt v t => exact h
  | exc k t => exact h
  | bad => exact h
theorem Owe.ends {D D' : Ends} {r : RS} (h : Owe z W L0 H0 t0 L H D r) (a : ∀ e t, r = .nx e t → D'.nx = D.nx) (b : ∀ e t, r = .bk e t → D'.bk = D.bk) (c : ∀ e t, r = .ct e t → D'.ct = D.ct) (d : D'.rt = D.rt) : Owe z W L0 H0 t0 L H D' r := by
  cases r with
  | nx e t => show ∀ σ' H' L', _ → _ → D'.nx σ' H'; rw [a e t rfl]; exact h
  | bk e t => show ∀ σ' H' L', _ → _ → D'.bk σ' H'; rw [b e t rfl]; exact h
  | ct e t => show ∀ σ' H' L', _ → _ → D'.ct σ' H'; rw [c e t rfl]; exact h
  | rt v t => show ∀ x H' L', _ → _ → D'.rt x H'; rw [d]; exact h
  | exc k t => exact h
  | bad => exact h
theorem rd_while {D : Ends} {σ H} (h : rdX z W (sWhile ct f) D σ H) : L2.tWhile (rdT z W ct) (rdX z W f) D σ H := by
  rw [rdX_eq] at h
  obtain ⟨L0, H0, t0, L, env, t, r, h⟩ := h
  unfold sWhile at h
  refine ⟨fun m σ' H' => ∃ L' env' t', RelS z L0 H0 t0 L' env' t' σ' H' ∧ Owe z W L0 H0 t0 L' H' D (whileN ct f m env' t'), ⟨fuel, L, env, t, r, h⟩, ?_⟩
  rintro m σ1 H1 ⟨L1, env1, t1, r1, h1⟩
  refine ⟨L0, H0, t0, L1, env1, t1, r1, ?_⟩
  cases m with
  | zero => exact h1.elim
  | succ m =>
    simp only [whileN] at h1
    cases e : ct env1 t1 with
    | bad => rw [e] at h1; exact h1
    | exc k t' => rw [e] at h1; exact fun H' L' g => h1 H' L' (r1.base'.trans g)
    | ok b t2 =>
      rw [e] at h1
      simp only [Res.toS_ok] at h1
      intro H2 L2' g2
      have r2 := r1.go g2
      cases b with
      | false =>
        rw [if_neg (by decide)] at h1 ⊢
        exact h1 σ1 H2 L2' r2 g2.keep
      | true =>
        rw [if_pos rfl] at h1 ⊢
        have again : ∀ (e : Env) (t3 : Tin), Owe z W L0 H0 t0 L1 H1 D (whileN ct f m e t3) → ∀ σ' H' L', RelS z L0 H0 t0 L' e t3 σ' H' → Keep L2' H2 L' H' →
            ∃ m', m' < m + 1 ∧ ∃ L' env' t', RelS z L0 H0 t0 L' env' t' σ' H' ∧ Owe z W L0 H0 t0 L' H' D (whileN ct f m' env' t') := fun e t3 ho σ' H' L' r' k' =>
          ⟨m, Nat.lt_succ_self m, L', e, t3, r', ho.keep (g2.keep.trans k')⟩
        refine ⟨fun σ' H' => ∃ m', m' < m + 1 ∧ ∃ L' env' t', RelS z L0 H0 t0 L' env' t' σ' H' ∧ Owe z W L0 H0 t0 L' H' D (whileN ct f m' env' t'), fun σ' H' h => h, ?_⟩
        rw [rdX_eq]
        refine ⟨L0, H0, t0, L2', env1, t2, r2, ?_⟩
        cases e2 : f env1 t2 with
        | bad => rw [e2] at h1; exact h1
        | exc k t' => rw [e2] at h1; exact h1
        | rt v t' => rw [e2] at h1; exact h1
        | nx e3 t3 => rw [e2] at h1; exact again e3 t3 h1
        | ct e3 t3 => rw [e2] at h1; exact again e3 t3 h1
        | bk e3 t3 => rw [e2] at h1; exact fun σ' H' L' r' k' => h1 σ' H' L' r' (g2.keep.trans k')
theorem xwhile {body : List Stmt} (hp : PassesOwn (model X.prog X.w) X.A X.env X.xe) (hc : PT X c (rdT z W ct)) (hb : PSs X body (rdX z W f)) : PS X (.While c body [] pos) (rdX z W (sWhile ct f)) := (ps_while hp hc hb).imp fun _ _ _ => rd_while
variable {it : Nf.It} {g : Nf.G} {is : List Nat}
theorem rd_for {D : Ends} {σ H} (h : rdX z W (sFor it g f) D σ H) : L2.tFor (rdI z W it) (rdG z g is) (rdX z W f) D σ H := by
  rw [rdX_eq] at h
  obtain ⟨L0, H0, t0, L, env, t, r, h⟩ := h
  refine ⟨L0, H0, t0, L, env, t, r, ?_⟩
  simp only [sFor] at h
  cases e : it env t with
  | bad => rw [e] at h; exact h
  | exc k t' => rw [e] at h; exact fun H' L' g => h H' L' (r.base'.trans g)
  | ok xs t1 =>
    rw [e] at h
    simp only [Res.toS_ok] at h
    intro J H1 L1 g1 wk
    refine ⟨fun i m σ' H' => m = xs.length - i ∧ i ≤ xs.length ∧ ∃ L' env' t', RelS z L0 H0 t0 L' env' t' σ' H' ∧ Keep L1 H1 L' H' ∧ Owe z W L0 H0 t0 L' H' D (forLoop g f (xs.drop i) env' t'), ⟨xs.length, by simp, by simp, L1, env, t1, r.go g1, .refl _ _, h.keep g1.keep⟩, ?_⟩
    rintro i m σ2 H2 ⟨hm, hi, L2', env2, t2, r2, k2, h2⟩
    have wki := wk i L2' H2 t2 r2.ok k2
    by_cases hlt : i < xs.length
    · have hx : xs[i]? = some xs[i] := List.getElem?_eq_getElem hlt
      obtain ⟨hgo, hyld⟩ := wki.1 _ hx
      rw [List.drop_eq_getElem_cons hlt] at h2
      simp only [forLoop] at h2
      refine .inr ⟨hgo, fun σ' H' => ∃ m', m' < m ∧ m' = xs.length - (i + 1) ∧ i + 1 ≤ xs.length ∧ ∃ L' env' t', RelS z L0 H0 t0 L' env' t' σ' H' ∧ Keep L1 H1 L' H' ∧ Owe z W L0 H0 t0 L' H' D (forLoop g f (xs.drop (i + 1)) env' t'), fun σ' H' h => h, fun x H3 hy => ?_⟩
      obtain ⟨L3, g3, rx⟩ := hyld x H3 hy
      refine ⟨L0, H0, t0, L3, env2, t2, xs[i], r2.go g3, rx, ?_⟩
      cases e3 : g xs[i] env2 with
      | none => rw [e3] at h2; exact h2.elim
      | some env3 =>
        rw [e3] at h2
        simp only at h2
        intro σ3 r3 _
        have again : ∀ (e : Env) (t3 : Tin), Owe z W L0 H0 t0 L2' H2 D (forLoop g f (xs.drop (i + 1)) e t3) → ∀ σ' H' L', RelS z L0 H0 t0 L' e t3 σ' H' → Keep L3 H3 L' H' →
            ∃ m', m' < m ∧ m' = xs.length - (i + 1) ∧ i + 1 ≤ xs.length ∧ ∃ L' env' t', RelS z L0 H0 t0 L' env' t' σ' H' ∧ Keep L1 H1 L' H' ∧ Owe z W L0 H0 t0 L' H' D (forLoop g f (xs.drop (i + 1)) env' t') := fun e t3 ho σ' H' L' r' k' =>
          ⟨xs.length - (i + 1), by omega, rfl, by omega, L', e, t3, r', k2.trans (g3.keep.trans k'), ho.keep (g3.keep.trans k')⟩
        rw [rdX_eq]
        refine ⟨L0, H0, t0, L3, env3, t2, r3, ?_⟩
        cases e4 : f env3 t2 with
        | bad => rw [e4] at h2; exact h2
        | exc k t' => rw [e4] at h2; exact h2
        | rt v t' => rw [e4] at h2; exact h2
        | nx e5 t5 => rw [e4] at h2; exact again e5 t5 h2
        | ct e5 t5 => rw [e4] at h2; exact again e5 t5 h2
        | bk e5 t5 => rw [e4] at h2; exact fun σ' H' L' r' k' => h2 σ' H' L' r' (g3.keep.trans k')
    · have he : xs.drop i = [] := List.drop_eq_nil_of_le (by omega)
      rw [he] at h2
      exact .inl ⟨wki.2 (by omega), h2 σ2 H2 L2' r2 (.refl _ _)⟩
theorem xfor [F : Fit z X] {tg iter : Expr} {body : List Stmt} (hp : PassesOwn (model X.prog X.w) X.A X.env X.xe) (hi : PI X tg iter (rdI z W it)) (hg : PG X tg (rdG z g is)) (hb : PSs X body (rdX z W f))
    (hs : ∀ x, foldedSetIterable iter X.env x = pure x := by intro _; rfl) : PS X (.For tg iter body [] pos) (rdX z W (sFor it g f)) := (ps_for hp F.calm hi hg hb hs).imp fun _ _ _ => rd_for

/-! ### methods, items -/
variable {apos cpos : Pos}
theorem xappend [F : Fit z X] (i : Nat) {x : PySem.Str} (hN : X.N[i]? = some x := by rfl) (hv : Vis X.env.scope x := by first | exact Or.inl rfl | exact Or.inr (Or.inl rfl) | exact Or.inr (Or.inr rfl)) (he : PE X e (rd z W (RE z) fe)) (hd : (x == ("__debug__" : PySem.Str)) = false := by decide) (hcd : (x == ("__classdict__" : PySem.Str)) = false := by decide)
    (hbase : attributeBase (.Name x p) "append" X.env (eval (.Name x p) X.env) = eval (.Name x p) X.env := by rfl)
    (hfew : ((backTo cpos (starEach [e] X.env)).all (fun x => !x.1) && (backToKw cpos (keywordEach [] X.env)).all (fun x => x.1.isSome)
      && decide ([e].length + ([] : List Keyword).length + (if ([] : List Keyword).isEmpty then 0 else 1) < 30)) = true := by rfl)
    (hline : (apos.endLine == cpos.line) = true := by rfl) (hs : starEach [e] X.env = (false, eval e X.env) :: starEach [] X.env := by rfl) (hplain : (backTo cpos (starEach [] X.env)).any (·.1) = false := by rfl)
    (hsw : swapsWith (.Call (.Attribute (.Name x p) "append" apos) [e] [] cpos) none pos.line X.env = pure false := by rfl) :
    PS X (.Expr (.Call (.Attribute (.Name x p) "append" apos) [e] [] cpos) pos) (rdX z W (sApp i fe)) := by
  refine (ps_expr (pe_bm PySem.F.plainAttrs_list PySem.F.slot_list_append PySem.F.type_list_append L2.mt_append (pe_var hN hv hd hcd) (pa_cons he pa_nil hs) hbase hfew hline hs hplain) hsw).imp fun D σ H h => ?_
  obtain ⟨L0, H0, t0, L, env, t, r, h⟩ := h
  simp only [sApp] at h
  cases e2 : Nf.ownL i env with
  | none => rw [e2] at h; exact h.elim
  | some xs =>
    rw [e2] at h
    simp only at h
    obtain ⟨a, ys, hσ, ha, ry, _⟩ := r.ownL e2
    refine ⟨_, hσ, .inl ⟨rfl, ys, .inl (.inl ha)⟩, L0, H0, t0, L, env, t, r, ?_⟩
    cases e : fe env t with
    | bad => rw [e] at h; exact h
    | exc k t' => rw [e] at h; exact fun H' L' g => h H' L' (r.base'.trans g)
    | ok v t1 =>
      rw [e] at h
      simp only [Res.toS_ok] at h
      intro y H1 L1 g1 rv
      have r1 := r.go g1
      obtain ⟨a', ys', hσ', ha', ry', up⟩ := r1.ownL e2
      rw [hσ] at hσ'; cases hσ'
      by_cases hl : xs.length < lim
      · rw [if_pos hl] at h
        obtain ⟨r2, k2⟩ := up (xs ++ [v]) (ys' ++ [y]) (Rvs.append ry' (Rvs.cons rv Rvs.nil))
        refine ⟨a, ys', y, rfl, rfl, ha', ?_, h _ _ L1 r2 (g1.keep.trans k2)⟩
        rw [ry'.len]; exact Nat.lt_of_lt_of_le hl (by decide)
      · rw [if_neg hl] at h; exact h.elim
theorem xextend [F : Fit z X] (i : Nat) {x : PySem.Str} (hN : X.N[i]? = some x := by rfl) (hv : Vis X.env.scope x := by first | exact Or.inl rfl | exact Or.inr (Or.inl rfl) | exact Or.inr (Or.inr rfl)) (he : PE X e (rd z W (RE z) fe)) (hd : (x == ("__debug__" : PySem.Str)) = false := by decide) (hcd : (x == ("__classdict__" : PySem.Str)) = false := by decide)
    (hbase : attributeBase (.Name x p) "extend" X.env (eval (.Name x p) X.env) = eval (.Name x p) X.env := by rfl)
    (hfew : ((backTo cpos (starEach [e] X.env)).all (fun x => !x.1) && (backToKw cpos (keywordEach [] X.env)).all (fun x => x.1.isSome)
      && decide ([e].length + ([] : List Keyword).length + (if ([] : List Keyword).isEmpty then 0 else 1) < 30)) = true := by rfl)
    (hline : (apos.endLine == cpos.line) = true := by rfl) (hs : starEach [e] X.env = (false, eval e X.env) :: starEach [] X.env := by rfl) (hplain : (backTo cpos (starEach [] X.env)).any (·.1) = false := by rfl)
    (hsw : swapsWith (.Call (.Attribute (.Name x p) "extend" apos) [e] [] cpos) none pos.line X.env = pure false := by rfl) :
    PS X (.Expr (.Call (.Attribute (.Name x p) "extend" apos) [e] [] cpos) pos) (rdX z W (sExt i fe)) := by
  refine (ps_expr (pe_bm PySem.F.plainAttrs_list PySem.F.slot_list_extend PySem.F.type_list_extend L2.mt_extend (pe_var hN hv hd hcd) (pa_cons he pa_nil hs) hbase hfew hline hs hplain) hsw).imp fun D σ H h => ?_
  obtain ⟨L0, H0, t0, L, env, t, r, h⟩ := h
  simp only [sExt] at h
  cases e2 : Nf.ownL i env with
  | none => rw [e2] at h; exact h.elim
  | some xs =>
    rw [e2] at h
    simp only at h
    obtain ⟨a, ys, hσ, ha, ry, _⟩ := r.ownL e2
    refine ⟨_, hσ, .inl ⟨rfl, ys, .inl (.inl ha)⟩, L0, H0, t0, L, env, t, r, ?_⟩
    cases e : fe env t with
    | bad => rw [e] at h; exact h
    | exc k t' => rw [e] at h; exact fun H' L' g => h H' L' (r.base'.trans g)
    | ok v t1 =>
      rw [e] at h
      simp only [Res.toS_ok] at h
      intro y H1 L1 g1 rv
      have r1 := r.go g1
      obtain ⟨a', ys', hσ', ha', ry', up⟩ := r1.ownL e2
      rw [hσ] at hσ'; cases hσ'
      cases v <;> simp only at h <;> first | exact h.elim | skip
      rename_i zs
      by_cases hl : xs.length + zs.length ≤ lim
      · rw [if_pos hl] at h
        simp only [RE, Rv] at rv
        obtain ⟨b, us, rfl, lb, hb, rb⟩ := rv
        obtain ⟨r2, k2⟩ := up (xs ++ zs) (ys' ++ us) (Rvs.append ry' rb)
        refine ⟨a, b, ys', us, rfl, rfl, ha', hb, ?_, h _ _ L1 r2 (g1.keep.trans k2)⟩
        rw [ry'.len, rb.len]; exact Nat.le_trans hl (by decide)
      · rw [if_neg hl] at h; exact h.elim
theorem xpop [F : Fit z X] (i : Nat) {x : PySem.Str} (hN : X.N[i]? = some x := by rfl) (hv : Vis X.env.scope x := by first | exact Or.inl rfl | exact Or.inr (Or.inl rfl) | exact Or.inr (Or.inr rfl)) (hd : (x == ("__debug__" : PySem.Str)) = false := by decide) (hcd : (x == ("__classdict__" : PySem.Str)) = false := by decide)
    (hbase : attributeBase (.Name x p) "pop" X.env (eval (.Name x p) X.env) = eval (.Name x p) X.env := by rfl) (hline : (apos.endLine == cpos.line) = true := by rfl)
    (hsw : swapsWith (.Call (.Attribute (.Name x p) "pop" apos) [] [] cpos) none pos.line X.env = pure false := by rfl) :
    PS X (.Expr (.Call (.Attribute (.Name x p) "pop" apos) [] [] cpos) pos) (rdX z W (sPop i)) := by
  refine (ps_expr (pe_bm0 PySem.F.plainAttrs_list PySem.F.slot_list_pop PySem.F.type_list_pop L2.mt_pop (pe_var hN hv hd hcd) hbase hline) hsw).imp fun D σ H h => ?_
  obtain ⟨L0, H0, t0, L, env, t, r, h⟩ := h
  simp only [sPop] at h
  cases e2 : Nf.ownL i env with
  | none => rw [e2] at h; exact h.elim
  | some xs =>
    rw [e2] at h
    simp only at h
    obtain ⟨a, ys, hσ, ha, ry, up⟩ := r.ownL e2
    refine ⟨_, hσ, .inl ⟨rfl, ys, .inl (.inl ha)⟩, ?_⟩
    by_cases hl : xs = []
    · rw [if_pos hl] at h; exact h.elim
    · rw [if_neg hl] at h
      have hlen := ry.len
      have hpos : 0 < xs.length := List.length_pos_iff.mpr hl
      have e3 : ys.dropLast = ys.take (xs.length - 1) := by rw [List.dropLast_eq_take, hlen]
      have e4 : xs.dropLast = xs.take (xs.length - 1) := by rw [List.dropLast_eq_take]
      obtain ⟨r2, k2⟩ := up xs.dropLast ys.dropLast (by rw [e3, e4]; exact Rvs.take _ ry)
      have hlt : ys.length - 1 < ys.length := by omega
      exact ⟨a, ys, ys[ys.length - 1], rfl, rfl, ha, List.getElem?_eq_getElem hlt, h _ _ L r2 k2⟩
/-- name[ix] = e -/
theorem xsetIx [F : Fit z X] (i : Nat) {x : PySem.Str} {ix : Expr} {spos : Pos} (he : PE X e (rd z W (RE z) fe)) (hi : PE X ix (rd z W (RO z) fi)) (hN : X.N[i]? = some x := by rfl) (hv : Vis X.env.scope x := by first | exact Or.inl rfl | exact Or.inr (Or.inl rfl) | exact Or.inr (Or.inr rfl)) (hd : (x == ("__debug__" : PySem.Str)) = false := by decide) (hcd : (x == ("__classdict__" : PySem.Str)) = false := by decide)
    (ha : ∀ v, assign (.Subscript (.Name x p) ix spos) X.env v = (do
      let ov ← holding [v] (eval (.Name x p) X.env)
      let iv ← holding [v, ov] (eval ix X.env)
      standAt spos
      holding [v, ov, iv] (setItem ov iv v)
      release [v, ov, iv] []) := by intro _; rfl)
    (hs : swapsWithSole [.Subscript (.Name x p) ix spos] e pos.line X.env = pure false := by rfl) (hw : swappedStores [.Subscript (.Name x p) ix spos] e X.env = pure none := by rfl)
    (h1 : (assignEach [.Subscript (.Name x p) ix spos] X.env).map (·.2) = [assign (.Subscript (.Name x p) ix spos) X.env] := by rfl) :
    PS X (.Assign [.Subscript (.Name x p) ix spos] e pos) (rdX z W (sSet i fi fe)) := by
  refine (ps_asg he (pg_sub (pe_var hN hv hd hcd) hi set_list ha) hs hw h1).imp fun D σ H h => ?_
  obtain ⟨L0, H0, t0, L, env, t, r, h⟩ := h
  refine ⟨L0, H0, t0, L, env, t, r, ?_⟩
  simp only [sSet] at h
  cases e2 : Nf.ownL i env with
  | none => rw [e2] at h; exact h.elim
  | some xs =>
    rw [e2] at h
    simp only at h
    cases e : fe env t with
    | bad => rw [e] at h; exact h
    | exc k t' => rw [e] at h; exact fun H' L' g => h H' L' (r.base'.trans g)
    | ok v t1 =>
      rw [e] at h
      simp only [Res.toS_ok] at h
      intro y H1 L1 g1 rv
      have r1 := r.go g1
      obtain ⟨a, ys, hσ, _⟩ := r1.ownL e2
      refine ⟨_, hσ, L0, H0, t0, L1, env, t1, r1, ?_⟩
      cases e3 : fi env t1 with
      | bad => rw [e3] at h; exact h
      | exc k t' => rw [e3] at h; exact fun H' L' g => h H' L' (r1.base'.trans g)
      | ok w t2 =>
        rw [e3] at h
        simp only [Res.toS_ok] at h
        intro u H2 L2' g2 ru
        have r2 := r1.go g2
        obtain ⟨a', ys', hσ', ha', ry', up⟩ := r2.ownL e2
        rw [hσ] at hσ'; cases hσ'
        cases w <;> simp only at h <;> first | exact h.elim | skip
        rename_i k
        cases ru.int
        cases e4 : ixOf xs.length k with
        | none => rw [e4] at h; exact h.elim
        | some j =>
          rw [e4] at h
          simp only at h
          obtain ⟨r3, k3⟩ := up (xs.set j v) (ys'.set j y) (Rvs.set j (Rv.keep g2.keep v rv) ry')
          exact ⟨a, ys', k, j, rfl, rfl, ha', by rw [ry'.len]; exact e4, h _ _ L2' r3 (g1.keep.trans (g2.keep.trans k3))⟩
end
end Nf

namespace Nf
open PySem PySem.Spec PyProof.Rows L2
section
variable {z : Cz} {W : Wx} {X : Cx} {L L0 : Lk} {H H0 : Hp} {t t0 : Tin} {R : Rr} {pos p : Pos} {env : Env} {σ : List (Option V)} {e : Expr} {fe fi : E} {c : Expr} {ct : T} {f : Nf.S} {es : List Expr} {fa : A}

/-! ### several names at once -/
def Rm (z : Cz) : List Bool → Lk → Hp → Lk → Hp → List Val → List V → Prop
  | [], _, _, _, _, [], ys => ys = []
  | b :: bs, L, H, L', H', v :: vs, ys => ∃ y r, ys = y :: r ∧ (if b then RN z L H L' H' v y else Rv z L' H' v y) ∧ (b = true → ∀ j : Nat, bs[j]? = some true → r[j]? ≠ some y) ∧ Rm z bs L H L' H' vs r
  | _, _, _, _, _, _, _ => False
def rdM (z : Cz) (W : Wx) (bs : List Bool) (a : A) : TA := fun σ H Q => ∃ L0 H0 t0 L env t, RelS z L0 H0 t0 L env t σ H ∧ match a env t with
  | .ok vs t' => ∀ xs H' L', Go z L H t L' H' t' → Rm z bs L H L' H' vs xs → Q xs H'
  | .exc k t' => ∀ H' L', Go z L H t L' H' t' → W k H'
  | .bad => False
theorem Rm.fresh : ∀ {bs : List Bool} {L L' : Lk} {H H' : Hp} {vs : List Val} {xs : List V} {j : Nat}, Rm z bs L H L' H' vs xs → bs[j]? = some true → ∃ a, xs[j]? = some (V.ref a) ∧ H a = none
  | [], _, _, _, _, vs, xs, j, h, e => by simp at e
  | b :: bs, _, _, _, _, [], xs, j, h, e => by simp only [Rm] at h
  | b :: bs, L, L', H, H', v :: vs, xs, j, h, e => by
    simp only [Rm] at h
    obtain ⟨y, r, rfl, h1, h2, h3⟩ := h
    cases j with
    | zero =>
      simp only [List.getElem?_cons_zero, Option.some.injEq] at e
      subst e
      rw [if_pos rfl] at h1
      obtain ⟨_, a, _, _, rfl, ha, _⟩ := h1
      exact ⟨a, rfl, ha⟩
    | succ j =>
      obtain ⟨a, h4, h5⟩ := Rm.fresh (j := j) h3 (by simpa using e)
      exact ⟨a, by simpa using h4, h5⟩
theorem Rm.back : ∀ {bs : List Bool} {L L1 L' : Lk} {H H1 H' : Hp} {t t1 : Tin} {vs : List Val} {xs : List V}, Go z L H t L1 H1 t1 → Rm z bs L1 H1 L' H' vs xs → Rm z bs L H L' H' vs xs
  | [], _, _, _, _, _, _, _, _, [], xs, g, h => h
  | [], _, _, _, _, _, _, _, _, _ :: _, xs, g, h => by simp only [Rm] at h
  | b :: bs, _, _, _, _, _, _, _, _, [], xs, g, h => by simp only [Rm] at h
  | b :: bs, _, _, _, _, _, _, _, _, v :: vs, xs, g, h => by
    simp only [Rm] at h ⊢
    obtain ⟨y, r, rfl, h1, h2, h3⟩ := h
    refine ⟨y, r, rfl, ?_, h2, Rm.back g h3⟩
    cases b with
    | true => rw [if_pos rfl] at h1 ⊢; exact RN.back.go g h1
    | false => rw [if_neg (by decide)] at h1 ⊢; exact h1
theorem xm_nil : PA X [] (rdM z W [] aNil) := pa_nil.imp fun σ H Q h => by
  obtain ⟨L0, H0, t0, L, env, t, r, h⟩ := h
  exact h [] H L (.refl r.ok) (by simp [Rm])
theorem xm_e {bs : List Bool} (ha : PE X e (rd z W (RE z) fe)) (hr : PA X es (rdM z W bs fa)) (hs : starEach (e :: es) X.env = (false, eval e X.env) :: starEach es X.env := by rfl) : PA X (e :: es) (rdM z W (false :: bs) (aCons fe fa)) := (pa_cons ha hr hs).imp fun σ H Q h => by
  obtain ⟨L0, H0, t0, L, env, t, r, h⟩ := h
  refine ⟨L0, H0, t0, L, env, t, r, ?_⟩
  simp only [aCons] at h
  cases e : fe env t with
  | bad => rw [e] at h; exact h
  | exc k t' => rw [e] at h; exact h
  | ok v t1 =>
    rw [e] at h
    intro x H1 L1 g1 rx
    refine ⟨L0, H0, t0, L1, env, t1, r.go g1, ?_⟩
    simp only [Res.bind_ok] at h
    cases e2 : fa env t1 with
    | bad => rw [e2] at h; exact h
    | exc k t' => rw [e2] at h; exact fun H' L' g2 => h H' L' (g1.trans g2)
    | ok vs t2 =>
      rw [e2] at h
      simp only [Res.bind_ok] at h
      intro ys H2 L2' g2 ry
      refine h (x :: ys) H2 L2' (g1.trans g2) ?_
      unfold Rm
      refine ⟨x, ys, rfl, ?_, (fun q => Bool.noConfusion q), Rm.back g1 ry⟩
      rw [if_neg (by decide)]; exact Rv.keep g2.keep v rx
theorem xm_n {bs : List Bool} (ha : PE X e (rd z W (RN z) fe)) (hr : PA X es (rdM z W bs fa)) (hs : starEach (e :: es) X.env = (false, eval e X.env) :: starEach es X.env := by rfl) : PA X (e :: es) (rdM z W (true :: bs) (aCons fe fa)) := (pa_cons ha hr hs).imp fun σ H Q h => by
  obtain ⟨L0, H0, t0, L, env, t, r, h⟩ := h
  refine ⟨L0, H0, t0, L, env, t, r, ?_⟩
  simp only [aCons] at h
  cases e : fe env t with
  | bad => rw [e] at h; exact h
  | exc k t' => rw [e] at h; exact h
  | ok v t1 =>
    rw [e] at h
    intro x H1 L1 g1 rx
    refine ⟨L0, H0, t0, L1, env, t1, r.go g1, ?_⟩
    simp only [Res.bind_ok] at h
    cases e2 : fa env t1 with
    | bad => rw [e2] at h; exact h
    | exc k t' => rw [e2] at h; exact fun H' L' g2 => h H' L' (g1.trans g2)
    | ok vs t2 =>
      rw [e2] at h
      simp only [Res.bind_ok] at h
      intro ys H2 L2' g2 ry
      refine h (x :: ys) H2 L2' (g1.trans g2) ?_
      unfold Rm
      obtain ⟨us, a, zs, rfl, rfl, ha0, nl, ha1, rv⟩ := rx
      refine ⟨_, ys, rfl, ?_, fun _ j ej es => ?_, Rm.back g1 ry⟩
      · rw [if_pos rfl]
        refine ⟨us, a, zs, rfl, rfl, ha0, fun l => ?_, g2.stay a _ ha1 (g1.pre.ta_ne ha0), Rvs.keep g2.keep us rv⟩
        rcases g2.new a l with l | l
        · exact nl l
        · rw [ha1] at l; cases l
      · obtain ⟨b, h1, h2⟩ := Rm.fresh ry ej
        rw [h1] at es; cases es
        rw [ha1] at h2; cases h2
def setAll : List (Nat × Bool) → List V → List (Option V) → List (Option V)
  | p :: ps, x :: xs, σ => (setAll ps xs σ).set p.1 (some x)
  | _, _, σ => σ
theorem getElem?_set_some {α : Type} {l : List (Option α)} {i k : Nat} {x y : α} (h : (l.set i (some x))[k]? = some (some y)) : (i = k ∧ x = y) ∨ (i ≠ k ∧ l[k]? = some (some y)) := by
  by_cases q : i = k
  · subst q
    rw [List.getElem?_set] at h
    split at h
    · split at h
      · simp at h; exact .inl ⟨rfl, h⟩
      · cases h
    · rename_i n; exact absurd rfl n
  · rw [getElem?_set_ne' q] at h; exact .inr ⟨q, h⟩
theorem putAll_ok {L' : Lk} {H' : Hp} {t' : Tin} (r : RelS z L0 H0 t0 L env t σ H) (g : Go z L H t L' H' t') : ∀ (ps : List (Nat × Bool)) (vs : List Val) (xs : List V) (env' : Env), Rm z (ps.map (·.2)) L H L' H' vs xs → putAll ps vs env = some env' →
    RelS z L0 H0 t0 L' env' t' (setAll ps xs σ) H' ∧ ∀ (k : Nat) (v : Val) (a : Addr), env'[k]? = some (some (true, v)) → (setAll ps xs σ)[k]? = some (some (V.ref a)) → (∃ o, H a = some o) ∨ ∃ j : Nat, (ps.map (·.2))[j]? = some true ∧ xs[j]? = some (V.ref a)
  | [], vs, xs, env', h, e => by
    cases vs with
    | cons _ _ => simp [putAll] at e
    | nil =>
      simp only [putAll, Option.some.injEq] at e
      subst e
      simp only [List.map_nil, Rm] at h
      subst h
      refine ⟨r.go g, fun k v a ek es => .inl ?_⟩
      obtain ⟨oa, h1, _⟩ := r.own
      obtain ⟨e1, _, _, _, o⟩ := h1 k v ek
      have es : σ[k]? = some (some (V.ref a)) := es
      rw [e1] at es; cases es
      exact o.there
  | (i, b) :: ps, [], xs, env', h, e => by simp [putAll] at e
  | (i, b) :: ps, v :: vs, xs, env', h, e => by
    simp only [List.map_cons, Rm] at h
    obtain ⟨y, us, rfl, h1, h2, h3⟩ := h
    simp only [putAll] at e
    cases e1 : putAll ps vs env with
    | none => rw [e1] at e; cases e
    | some env1 =>
      rw [e1] at e
      simp only [Option.bind_some] at e
      obtain ⟨r1, q1⟩ := putAll_ok r g ps vs us env1 h3 e1
      by_cases hl : i < env1.length
      case neg => rw [if_neg hl] at e; cases e
      rw [if_pos hl, Option.some.injEq] at e
      subst e
      simp only [setAll]
      cases b with
      | false =>
        rw [if_neg (by decide)] at h1
        refine ⟨r1.put h1 hl, fun k w a ek es => ?_⟩
        have n : i ≠ k := fun q => by subst q; rw [getElem?_set_self' hl] at ek; cases ek
        rw [getElem?_set_ne' n] at ek es
        rcases q1 k w a ek es with h | ⟨j, a1, a2⟩
        · exact .inl h
        · exact .inr ⟨j + 1, by simpa using a1, by simpa using a2⟩
      | true =>
        rw [if_pos rfl] at h1
        obtain ⟨ws, a, ys, rfl, rfl, ha, nl, ha', rv⟩ := h1
        refine ⟨r1.putOwn hl ha' nl (r.base'.free ha) (r.ok.ta_ne ha) rv fun j w ej es => ?_, fun k w a' ek es => ?_⟩
        · rcases q1 j w a ej es with ⟨o, h⟩ | ⟨j', a1, a2⟩
          · rw [ha] at h; cases h
          · exact h2 rfl j' a1 a2
        · rcases getElem?_set_some es with ⟨_, q⟩ | ⟨n, q⟩
          · cases q
            exact .inr ⟨0, by simp, by simp⟩
          · rw [getElem?_set_ne' n] at ek
            rcases q1 k w a' ek q with h | ⟨j, a1, a2⟩
            · exact .inl h
            · exact .inr ⟨j + 1, by simpa using a1, by simpa using a2⟩
theorem rd_par {ps : List (Nat × Bool)} {D : Ends} {σ H} (h : rdX z W (sPar ps fa) D σ H) : rdM z W (ps.map (·.2)) fa σ H (fun xs H1 => D.nx (setAll ps xs σ) H1 ∧ xs.length = ps.length) := by
  obtain ⟨L0, H0, t0, L, env, t, r, h⟩ := h
  refine ⟨L0, H0, t0, L, env, t, r, ?_⟩
  simp only [sPar] at h
  cases e : fa env t with
  | bad => rw [e] at h; exact h
  | exc k t' => rw [e] at h; exact fun H' L' g => h H' L' (r.base'.trans g)
  | ok vs t1 =>
    rw [e] at h
    simp only [Res.toS_ok] at h
    intro xs H1 L1 g1 rx
    cases e2 : putAll ps vs env with
    | none => rw [e2] at h; exact h.elim
    | some env' =>
      rw [e2] at h
      refine ⟨h _ H1 L1 (putAll_ok r g1 ps vs xs env' rx e2).1 g1.keep, ?_⟩
      have : ∀ (ps : List (Nat × Bool)) (vs : List Val) (xs : List V), Rm z (ps.map (·.2)) L H L1 H1 vs xs → xs.length = ps.length := by
        intro ps
        induction ps with
        | nil => intro vs xs h; cases vs <;> simp only [List.map_nil, Rm] at h; rw [h]; rfl
        | cons p ps ih =>
          intro vs xs h
          cases vs with
          | nil => simp only [List.map_cons, Rm] at h
          | cons v vs =>
            simp only [List.map_cons, Rm] at h
            obtain ⟨y, r, rfl, _, _, h3⟩ := h
            simp [ih vs r h3]
      exact this ps vs xs rx
theorem xpar2 [F : Fit z X] {i j : Nat} {x y : PySem.Str} {a b : Expr} {px py pt : Pos} {kt k2 : Nat} {pt2 : Pos} (b1 b2 : Bool) (hN : X.N.Nodup) (hi : X.N[i]? = some x) (hj : X.N[j]? = some y) (hij : i ≠ j)
    (hx : X.env.scope.names.lookup x = some .local) (hy : X.env.scope.names.lookup y = some .local) (ha : PA X [a, b] (rdM z W [b1, b2] fa))
    (hw : swappedStores [.Tuple [.Name x px, .Name y py] kt pt] (.Tuple [a, b] k2 pt2) X.env = pure (some [x, y]))
    (hs : swapsWithSole [.Tuple [.Name x px, .Name y py] kt pt] (.Tuple [a, b] k2 pt2) pos.line X.env = pure false := by rfl) :
    PS X (.Assign [.Tuple [.Name x px, .Name y py] kt pt] (.Tuple [a, b] k2 pt2) pos) (rdX z W (sPar [(i, b1), (j, b2)] fa)) := (ps_par F.calm hN hi hj hij hx hy ha hw hs).imp fun D σ H h => by
  have h2 := rd_par h
  unfold L2.tPar
  obtain ⟨L0, H0, t0, L, env, t, r, h2⟩ := h2
  refine ⟨L0, H0, t0, L, env, t, r, ?_⟩
  cases e : fa env t with
  | bad => rw [e] at h2; exact h2
  | exc k t' => rw [e] at h2; exact h2
  | ok vs t1 =>
    rw [e] at h2
    intro xs H1 L1 g1 rx
    obtain ⟨q, hl⟩ := h2 xs H1 L1 g1 rx
    match xs, hl with
    | [v, w], _ =>
      refine ⟨v, w, rfl, ?_⟩
      rw [List.set_comm _ _ hij]
      exact q
theorem xpar3 [F : Fit z X] {i j l : Nat} {x y u : PySem.Str} {a b d : Expr} {px py pu pt : Pos} {kt k2 : Nat} {pt2 : Pos} (b1 b2 b3 : Bool) (hN : X.N.Nodup) (hi : X.N[i]? = some x) (hj : X.N[j]? = some y) (hl : X.N[l]? = some u) (hij : i ≠ j) (hil : i ≠ l) (hjl : j ≠ l)
    (hx : X.env.scope.names.lookup x = some .local) (hy : X.env.scope.names.lookup y = some .local) (hu : X.env.scope.names.lookup u = some .local) (ha : PA X [a, b, d] (rdM z W [b1, b2, b3] fa))
    (hw : swappedStores [.Tuple [.Name x px, .Name y py, .Name u pu] kt pt] (.Tuple [a, b, d] k2 pt2) X.env = pure (some [x, y, u]))
    (hs : swapsWithSole [.Tuple [.Name x px, .Name y py, .Name u pu] kt pt] (.Tuple [a, b, d] k2 pt2) pos.line X.env = pure false := by rfl) :
    PS X (.Assign [.Tuple [.Name x px, .Name y py, .Name u pu] kt pt] (.Tuple [a, b, d] k2 pt2) pos) (rdX z W (sPar [(i, b1), (j, b2), (l, b3)] fa)) := (ps_par3 F.calm hN hi hj hl hij hil hjl hx hy hu ha hw hs).imp fun D σ H h => by
  have h2 := rd_par h
  unfold L2.tPar3
  obtain ⟨L0, H0, t0, L, env, t, r, h2⟩ := h2
  refine ⟨L0, H0, t0, L, env, t, r, ?_⟩
  cases e : fa env t with
  | bad => rw [e] at h2; exact h2
  | exc k t' => rw [e] at h2; exact h2
  | ok vs t1 =>
    rw [e] at h2
    intro xs H1 L1 g1 rx
    obtain ⟨q, hl⟩ := h2 xs H1 L1 g1 rx
    match xs, hl with
    | [v, w, s], _ =>
      refine ⟨v, w, s, rfl, ?_⟩
      have e3 : ((σ.set i (some v)).set j (some w)).set l (some s) = ((σ.set l (some s)).set j (some w)).set i (some v) := by
        rw [List.set_comm _ _ hij, List.set_comm _ _ hil, List.set_comm _ _ hjl]
      rw [e3]
      exact q

/-! ### the list of draws -/
theorem xtinSet [F : Fit z X] (i k : Nat) {x : PySem.Str} {j : Nat} {spos p3 : Pos} (he : PE X e (rd z W (RE z) fe)) (hN : X.N[i]? = some x := by rfl) (hv : Vis X.env.scope x := by first | exact Or.inl rfl | exact Or.inr (Or.inl rfl) | exact Or.inr (Or.inr rfl)) (hd : (x == ("__debug__" : PySem.Str)) = false := by decide) (hcd : (x == ("__classdict__" : PySem.Str)) = false := by decide)
    (ha : ∀ v, assign (.Subscript (.Name x p) (.Constant (.int k) j p3) spos) X.env v = (do
      let ov ← holding [v] (eval (.Name x p) X.env)
      let iv ← holding [v, ov] (eval (.Constant (.int k) j p3) X.env)
      standAt spos
      holding [v, ov, iv] (setItem ov iv v)
      release [v, ov, iv] []) := by intro _; rfl)
    (hs : swapsWithSole [.Subscript (.Name x p) (.Constant (.int k) j p3) spos] e pos.line X.env = pure false := by rfl) (hw : swappedStores [.Subscript (.Name x p) (.Constant (.int k) j p3) spos] e X.env = pure none := by rfl)
    (h1 : (assignEach [.Subscript (.Name x p) (.Constant (.int k) j p3) spos] X.env).map (·.2) = [assign (.Subscript (.Name x p) (.Constant (.int k) j p3) spos) X.env] := by rfl) :
    PS X (.Assign [.Subscript (.Name x p) (.Constant (.int k) j p3) spos] e pos) (rdX z W (sTin i k fe)) := by
  refine (ps_asg he (pg_sub (pe_var hN hv hd hcd) pe_int set_list ha) hs hw h1).imp fun D σ H h => ?_
  obtain ⟨L0, H0, t0, L, env, t, r, h⟩ := h
  refine ⟨L0, H0, t0, L, env, t, r, ?_⟩
  simp only [sTin] at h
  cases e : fe env t with
  | bad => rw [e] at h; exact h
  | exc k t' => rw [e] at h; exact fun H' L' g => h H' L' (r.base'.trans g)
  | ok v t1 =>
    rw [e] at h
    simp only [Res.toS_ok] at h
    intro y H1 L1 g1 rv
    have r1 := r.go g1
    rcases e2 : env[i]? with _ | (_ | ⟨b, w⟩) <;> simp only [e2] at h <;> try exact h.elim
    cases b <;> cases w <;> first | exact h.elim | skip
    cases v <;> first | exact h.elim | skip
    rename_i m
    cases (show y = .int m by simpa [RE, Rv] using rv)
    obtain ⟨w, hσw, rw'⟩ := r1.val i _ e2
    simp only [Rv] at rw'
    obtain ⟨a, hta, rfl⟩ := rw'
    obtain ⟨nl, hla⟩ := r1.ok.2 a hta
    have fin : ∀ (q : Tin), Go z L1 H1 t1 L1 (upd H1 a (.lst [.int q.a, .int q.b, .int q.c])) q := fun q => by
      refine ⟨r1.ok, ⟨fun b lb => ?_, fun b eb => ?_⟩, fun _ h => h, fun _ h => .inl h, fun b o eb n => ?_⟩
      · have n : b ≠ a := fun q => by subst q; exact nl lb
        rw [upd_ne n]; exact r1.ok.1 b lb
      · rw [hta] at eb; cases eb
        exact ⟨nl, upd_same⟩
      · have n : b ≠ a := fun q => by subst q; exact n hta
        rw [upd_ne n]; exact eb
    match k, h with
    | 0, h => exact ⟨_, hσw, a, _, 0, 0, rfl, rfl, hla, rfl, h σ _ L1 (r1.go (fin { t1 with a := m })) (g1.trans (fin { t1 with a := m })).keep⟩
    | 1, h => exact ⟨_, hσw, a, _, 1, 1, rfl, rfl, hla, rfl, h σ _ L1 (r1.go (fin { t1 with b := m })) (g1.trans (fin { t1 with b := m })).keep⟩
    | 2, h => exact ⟨_, hσw, a, _, 2, 2, rfl, rfl, hla, rfl, h σ _ L1 (r1.go (fin { t1 with c := m })) (g1.trans (fin { t1 with c := m })).keep⟩
    | n + 3, h => exact h.elim

/-! ### a def keeps its promise -/
theorem RelS.start {ta : Option Addr} {K : PySem.W.Frag} {fa : Nat → Addr} {args : List Val} {vs : List V} {N : List PySem.Str} (ok : Ok ⟨K, ta, fa⟩ L H t) (r : Rvs ⟨K, ta, fa⟩ L H args vs) (hn : args.length ≤ N.length) :
    RelS ⟨K, ta, fa⟩ L H t L (env0 N.length args) t (L2.start N vs) H := by
  have hl := r.len
  refine ⟨⟨fun _ h => h, fun _ h => .inl h, fun _ _ h _ => h, ok⟩, ok, ?_, fun i v e => ?_, fun _ => 0, fun i v e => ?_, fun i j v w e => ?_⟩
  · unfold env0 L2.start
    simp [hl]
  · unfold env0 at e
    unfold L2.start
    rcases Nat.lt_or_ge i args.length with h | h
    · rw [List.getElem?_append_left (by simpa using h)] at e
      rw [List.getElem?_append_left (by simpa [hl] using h)]
      rw [List.getElem?_map] at e ⊢
      cases q : args[i]? with
      | none => rw [q] at e; cases e
      | some u =>
        rw [q] at e
        cases e
        obtain ⟨y, hy, ry⟩ := r.get q
        exact ⟨y, by rw [hy]; rfl, ry⟩
    · rw [List.getElem?_append_right (by simpa using h)] at e
      rw [List.getElem?_replicate] at e
      split at e <;> cases e
  · unfold env0 at e
    rcases Nat.lt_or_ge i args.length with h | h
    · rw [List.getElem?_append_left (by simpa using h), List.getElem?_map] at e
      cases q : args[i]? <;> rw [q] at e <;> cases e
    · rw [List.getElem?_append_right (by simpa using h), List.getElem?_replicate] at e
      split at e <;> cases e
  · unfold env0 at e
    rcases Nat.lt_or_ge i args.length with h | h
    · rw [List.getElem?_append_left (by simpa using h), List.getElem?_map] at e
      cases q : args[i]? <;> rw [q] at e <;> cases e
    · rw [List.getElem?_append_right (by simpa using h), List.getElem?_replicate] at e
      split at e <;> cases e
end
section
variable {P : Program} {w : World} {K : PySem.W.Frag} {mg : PySem.Str → Option Value} {base : Heap} {x qual : PySem.Str} {params : Arguments} {body : List Stmt} {scope : Scope} {kws : List (PySem.Str × V)} {ad : Addr} {fd : FuncData} {N ps : List PySem.Str} {k : Nat}
/-- a def whose body reads as s -/
theorem fok (fa : Nat → Addr) (s : Nf.S) (F : FunD K x qual params body scope [] kws ad fd) (S : FnScope N ps scope) (hps : ps.length ≤ N.length)
    (hb : ∀ (cdv : Value) (A : Around) (outer : List PySem.Env) (s0 : Shared) (H : Hp) (E : XK) (ta : Option Addr), Room k (A.deeper (envOfC qual scope s0.heap.objs.size ad cdv)) → Fit ⟨K, ta, fa⟩ (cxOf CX0 P w K mg base N qual scope ad cdv A outer s0 H E).nox → PSs (cxOf CX0 P w K mg base N qual scope ad cdv A outer s0 H E).nox body (rdX ⟨K, ta, fa⟩ W0 s)) :
    FnOk P w K mg base CX0 (k + 1) ad fd ps (spOf K fa (runDef ps.length N.length s)) := by
  refine F.ok S (fun vs H Q E h => ?_) (fun cdv A outer s0 H vs Q E hr h => ?_)
  · obtain ⟨ta, L, args, t, ok, r, h⟩ := h
    rw [r.len]
    unfold runDef at h
    by_cases q : args.length = ps.length
    · exact q
    · rw [if_neg q] at h; exact h.elim
  · obtain ⟨ta, L, args, t, ok, r, h⟩ := h
    refine ⟨_, PSs.nox (hb cdv A outer s0 H E ta hr ⟨rfl, rfl, by have := hr.un; show (A.deeper (envOfC qual scope s0.heap.objs.size ad cdv)).units + 70 < _; omega⟩), ?_⟩
    unfold runDef at h
    by_cases q : args.length = ps.length
    case neg => rw [if_neg q] at h; exact h.elim
    rw [if_pos q] at h
    have r0 := RelS.start (N := N) ok r (by rw [q]; exact hps)
    refine ⟨L, H, t, L, _, t, r0, ?_⟩
    cases e : s (env0 N.length args) t with
    | bad => rw [e] at h; exact h
    | exc k t' => rw [e] at h; exact h.elim
    | bk e' t' => rw [e] at h; exact h.elim
    | ct e' t' => rw [e] at h; exact h.elim
    | rt v t' => rw [e] at h; exact fun x H' L' g rv => h x H' L' g rv
    | nx e' t' => rw [e] at h; exact fun σ' H' L' r' _ => h .non H' L' r'.base' (by simp [Rv])
end
end Nf

namespace Nf
open PySem PySem.Spec PyProof.Rows L2
section
variable {z : Cz} {W : Wx} {X : Cx} {L L0 : Lk} {H H0 : Hp} {t t0 : Tin} {R : Rr} {pos p : Pos} {env : Env} {σ : List (Option V)} {e : Expr} {f g h : E} {a b c : Expr}
theorem os_isB : OpR X (compareOp .Is) (rdOp z (RE z) cIsB) := by
  intro pins s σ H x y v u Q I rx ry h
  obtain ⟨L, v', w', t, r, ok, hv, hw, e, q⟩ := h
  cases v' <;> cases w' <;> simp only [cIsB, reduceCtorEq, Option.some.injEq] at e
  subst e
  exact op_isBl pins s σ H x y v u Q I rx ry ⟨_, _, hv.bl, hw.bl, q _ H L (.refl ok) (by simp [RE, Rv])⟩
theorem os_notB : OpR X (compareOp .IsNot) (rdOp z (RE z) cNotB) := by
  intro pins s σ H x y v u Q I rx ry h
  obtain ⟨L, v', w', t, r, ok, hv, hw, e, q⟩ := h
  cases v' <;> cases w' <;> simp only [cNotB, reduceCtorEq, Option.some.injEq] at e
  subst e
  exact op_notBl pins s σ H x y v u Q I rx ry ⟨_, _, hv.bl, hw.bl, q _ H L (.refl ok) (by simp [RE, Rv])⟩
theorem os_isnotN : OpR X (compareOp .IsNot) (rdOp z (RE z) oNotN) := by
  intro pins s σ H x y v u Q I rx ry h
  obtain ⟨L, v', w', t, r, ok, hv, hw, e, q⟩ := h
  cases w' <;> simp only [oNotN, reduceCtorEq] at e
  simp only [cNotN, Option.some.injEq] at e; subst e
  refine op_notN pins s σ H x y v u Q I rx ry ⟨hw.non, ?_⟩
  have hb : decide (x = V.non) = v'.isNon := by
    cases v' <;> simp only [Val.isNon]
    · cases hv.non; exact decide_eq_true rfl
    · cases hv.bl; exact decide_eq_false (fun z => nomatch z)
    · cases hv.int; exact decide_eq_false (fun z => nomatch z)
    · cases hv.str; exact decide_eq_false (fun z => nomatch z)
    · obtain ⟨a, _, rfl, _⟩ := hv.tup; exact decide_eq_false (fun z => nomatch z)
    · obtain ⟨a, _, rfl, _⟩ := hv.lst; exact decide_eq_false (fun z => nomatch z)
    all_goals
      rcases hv with h | ⟨_, _, _, h, _⟩
      · simp only [Rv] at h
        try first | (obtain ⟨a, rfl, _⟩ := h; exact decide_eq_false (fun z => nomatch z)) | (obtain ⟨a, _, rfl, _⟩ := h; exact decide_eq_false (fun z => nomatch z)) | (obtain ⟨a, _, rfl⟩ := h; exact decide_eq_false (fun z => nomatch z)) | (subst h; exact decide_eq_false (fun z => nomatch z)) 
      · cases h
  rw [hb]
  exact q _ H L (.refl ok) (by simp [RE, Rv])
theorem os_addL [F : Fit z X] : OpR X (binaryOp .Add) (rdOp z (RN z) oAddL) := by
  intro pins s σ H x y v u Q I rx ry h
  obtain ⟨L, v', w', t, r, ok, hv, hw, e, q⟩ := h
  cases v' <;> cases w' <;> simp only [oAddL, reduceCtorEq] at e
  rename_i xs ys
  split at e
  · rename_i hl
    simp only [Option.some.injEq] at e; subst e
    obtain ⟨a, us, rfl, h1, r1⟩ := hv.lst
    obtain ⟨b, ws, rfl, h2, r2⟩ := hw.lst
    exact op_cat pins s σ H _ _ v u Q I rx ry ⟨a, b, us, ws, rfl, rfl, h1, h2, by rw [r1.len, r2.len]; exact le_line hl, fun p hp => newN ok (r1.append r2) q hp⟩
  · cases e
theorem os_mulL [F : Fit z X] : OpR X (binaryOp .Mult) (rdOp z (RN z) oMulL) := by
  intro pins s σ H x y v u Q I rx ry h
  obtain ⟨L, v', w', t, r, ok, hv, hw, e, q⟩ := h
  cases v' <;> cases w' <;> simp only [oMulL, reduceCtorEq] at e
  rename_i xs k
  split at e
  · rename_i hb
    obtain ⟨h1, h2, h3⟩ := hb
    simp only [Option.some.injEq] at e; subst e
    obtain ⟨a, us, rfl, ha, r1⟩ := hv.lst
    refine op_rep pins s σ H _ _ v u Q I rx ry ⟨a, k, us, rfl, hw.int, ha, by omega, by omega, ?_, fun p hp => newN ok (r1.flat k.toNat) q hp⟩
    rw [r1.len]
    have : xs.length * k.toNat ≤ 1000 * 1000 := Nat.mul_le_mul h3 (by omega)
    exact Nat.le_trans this (by decide)
  · cases e
theorem xoneN {op : BoolOp} (h : PE X a (rd z W R f)) : PE X (.BoolOp op [a] pos) (rd z W R f) := pe_one h
variable {rest : List Expr}
theorem xorN [F : Fit z X] (ha : PE X a (rd z W (RN z) f)) (hb : PE X (.BoolOp .Or (b :: rest) pos) (rd z W (RN z) g)) : PE X (.BoolOp .Or (a :: b :: rest) pos) (rd z W (RN z) (eOr f g)) := by
  refine (pe_orT ha hb).imp fun σ H Q h => ?_
  obtain ⟨L0, H0, t0, L, env, t, r, h⟩ := h
  refine ⟨L0, H0, t0, L, env, t, r, ?_⟩
  simp only [eOr] at h
  cases e : f env t with
  | bad => rw [e] at h; exact h
  | exc k t' => rw [e] at h; exact h
  | ok v t1 =>
    rw [e] at h
    simp only [Res.bind_ok] at h
    intro x H1 L1 g1 rx
    cases e2 : tru v with
    | none => rw [e2] at h; exact h.elim
    | some k =>
      rw [e2] at h
      have ro : RO z L1 H1 L1 H1 v x := by
        obtain ⟨vs, a, ys, rfl, rfl, h1, _, h3, h4⟩ := rx
        exact .inr ⟨vs, a, ys, rfl, rfl, g1.pre.ta_ne h1, h3, h4⟩
      refine ⟨k, tru_of (z := z) (L := L1) ro e2, ?_⟩
      cases k with
      | true =>
        simp only [if_true] at h ⊢
        exact h x H1 L1 g1 rx
      | false =>
        simp only [Bool.false_eq_true, if_false] at h ⊢
        refine ⟨L0, H0, t0, L1, env, t1, r.go g1, ?_⟩
        cases e3 : g env t1 with
        | bad => rw [e3] at h; exact h
        | exc k t' => rw [e3] at h; exact fun H' L' g2 => h H' L' (g1.trans g2)
        | ok v t2 => rw [e3] at h; exact fun x H' L' g2 rx => h x H' L' (g1.trans g2) (RN.back.go g1 rx)
/-- a call whose value is dropped -/
theorem xdrop (he : PE X e (rd z W (RE z) f)) (hs : swapsWith e none pos.line X.env = pure false := by rfl) : PS X (.Expr e pos) (rdX z W (sDrop f)) := (ps_expr he hs).imp fun D σ H h => by
  obtain ⟨L0, H0, t0, L, env, t, r, h⟩ := h
  refine ⟨L0, H0, t0, L, env, t, r, ?_⟩
  simp only [sDrop] at h
  cases e : f env t with
  | bad => rw [e] at h; exact h
  | exc k t' => rw [e] at h; exact fun H' L' g => h H' L' (r.base'.trans g)
  | ok v t1 =>
    rw [e] at h
    exact fun x H1 L1 g1 rx => h σ H1 L1 (r.go g1) g1.keep
/-! ### a op b op' c -/
theorem rd_chain {o o' : Val → Val → Option Val} {σ H Q} (hh : rd z W (RE z) (eChain o o' f g h) σ H Q) : tChain (rdOp z (RE z) o) (rdOp z (RE z) o') (rd z W (RO z) f) (rd z W (RO z) g) (rd z W (RO z) h) σ H Q := by
  obtain ⟨L0, H0, t0, L, env, t, r, hh⟩ := hh
  refine ⟨L0, H0, t0, L, env, t, r, ?_⟩
  simp only [eChain] at hh
  cases e : f env t with
  | bad => rw [e] at hh; exact hh
  | exc k t' => rw [e] at hh; exact hh
  | ok v t1 =>
    rw [e] at hh
    simp only [Res.bind_ok] at hh
    intro x H1 L1 g1 rx
    refine ⟨L0, H0, t0, L1, env, t1, r.go g1, ?_⟩
    cases e2 : g env t1 with
    | bad => rw [e2] at hh; exact hh
    | exc k t' => rw [e2] at hh; exact fun H' L' g2 => hh H' L' (g1.trans g2)
    | ok w t2 =>
      rw [e2] at hh
      simp only [Res.bind_ok] at hh
      intro y H2 L2' g2 ry
      cases e3 : o v w with
      | none => rw [e3] at hh; exact hh.elim
      | some q =>
        rw [e3] at hh
        refine ⟨L2', v, w, t2, q, g2.ok, RO.go g2 rx, ry, e3, fun u H3 L3 g3 ru => ?_⟩
        cases q <;> first | exact hh.elim | skip
        rename_i k
        refine ⟨k, by simpa [RE, Rv] using ru, ?_⟩
        have g13 := g1.trans (g2.trans g3)
        cases k with
        | false =>
          rw [if_neg (by decide)]
          exact hh (.bl false) H3 L3 g13 (by simp [RE, Rv])
        | true =>
          rw [if_pos rfl]
          refine ⟨L0, H0, t0, L3, env, t2, r.go g13, ?_⟩
          cases e4 : h env t2 with
          | bad => rw [e4] at hh; exact hh
          | exc k t' => rw [e4] at hh; exact fun H' L' g4 => hh H' L' (g13.trans g4)
          | ok u' t4 =>
            rw [e4] at hh
            simp only [Res.bind_ok] at hh
            intro y4 H4 L4 g4 ry4
            cases e5 : o' w u' with
            | none => rw [e5] at hh; exact hh.elim
            | some q =>
              rw [e5] at hh
              exact ⟨L4, w, u', t4, q, g4.ok, RO.go (g3.trans g4) ry, ry4, e5, fun u5 H5 L5 g5 ru5 => hh u5 H5 L5 (g13.trans (g4.trans g5)) ru5⟩
theorem xchain {op op' : CmpOp} {o o' : Val → Val → Option Val} (ho : OpR X (compareOp op) (rdOp z (RE z) o)) (ho' : OpR X (compareOp op') (rdOp z (RE z) o')) (ha : PE X a (rd z W (RO z) f)) (hb : PE X b (rd z W (RO z) g)) (hc : PE X c (rd z W (RO z) h))
    (hm : lastMarks [op, op'] [b, c] = false := by with_unfolding_all rfl) : PE X (.Compare a [op, op'] [b, c] pos) (rd z W (RE z) (eChain o o' f g h)) := (pe_chain ho ho' ha hb hc hm).imp fun _ _ _ => rd_chain
theorem xt_chain {op op' : CmpOp} {o o' : Val → Val → Option Val} (ho : OpR X (compareOp op) (rdOp z (RE z) o)) (ho' : OpR X (compareOp op') (rdOp z (RE z) o')) (ha : PE X a (rd z W (RO z) f)) (hb : PE X b (rd z W (RO z) g)) (hc : PE X c (rd z W (RO z) h))
    (hm : lastMarks [op, op'] [b, c] = false := by with_unfolding_all rfl) : PT X (.Compare a [op, op'] [b, c] pos) (rdT z W (tBl (eChain o o' f g h))) := (pt_chain ho ho' ha hb hc hm).imp fun σ H Q hh => by
  refine rd_chain ?_
  obtain ⟨L0, H0, t0, L, env, t, r, hh⟩ := hh
  refine ⟨L0, H0, t0, L, env, t, r, ?_⟩
  simp only [tBl] at hh
  cases e : eChain o o' f g h env t with
  | bad => rw [e] at hh; exact hh
  | exc k t' => rw [e] at hh; exact hh
  | ok v t1 =>
    rw [e] at hh
    simp only [Res.bind_ok] at hh
    intro x H1 L1 g1 rx
    cases v <;> simp only at hh <;> first | exact hh.elim | skip
    rename_i k
    exact ⟨k, by simpa [RE, Rv] using rx, hh H1 L1 g1⟩
end
end Nf

namespace Nf
open PySem PySem.Spec PyProof.Rows L2
/-! ### the law's def -/
/-- tin = e; rest -/
def lawRun (fe : E) (s : Nf.S) (N : Nat) (ns : List Int) : Prop := ∃ a b c t v t', fe (env0 N [.scr ns]) ⟨0, 0, 0⟩ = .ok (.lst [.int a, .int b, .int c]) t ∧ s ((env0 N []).set 1 (some (false, .tin))) ⟨a, b, c⟩ = .rt v t' ∧ v = .bl true
def spLaw (K : PySem.W.Frag) (p : List Int → Prop) : Sp := fun vs H Q _ => ∃ a ns, vs = [.ref a] ∧ SqL K H a (ns.map V.int) ∧ Only H ∧ p ns ∧ ∀ H', Q (.bl true) H'
theorem PSs.ex {X : Cx} {sts : List Stmt} {α : Type} {u : α → TS} (h : ∀ a, PSs X sts (u a)) : PSs X sts (fun D σ H => ∃ a, u a D σ H) := ⟨fun pins s σ H D I ⟨a, q⟩ => (h a).run pins s σ H D I q⟩
section
variable {P : Program} {w : World} {K : PySem.W.Frag} {mg : PySem.Str → Option Value} {base : Heap} {x qual : PySem.Str} {params : Arguments} {tg e : Expr} {st : Stmt} {rest : List Stmt} {scope : Scope} {kws : List (PySem.Str × V)} {ad : Addr} {fd : FuncData} {N : List PySem.Str} {k : Nat} {y : PySem.Str} {pos p : Pos}
theorem fokLaw (fa : Nat → Addr) (fe : E) (s : Nf.S) (F : FunD K x qual params (.Assign [.Name y p] e pos :: rest) scope [] kws ad fd) (S : FnScope N ["script"] scope) (hN : 2 ≤ N.length)
    (hb : ∀ (cdv : Value) (A : Around) (outer : List PySem.Env) (s0 : Shared) (H : Hp) (E : XK), Room k (A.deeper (envOfC qual scope s0.heap.objs.size ad cdv)) → (∀ ta, Fit ⟨K, ta, fa⟩ (cxOf CX0 P w K mg base N qual scope ad cdv A outer s0 H E).nox) →
      ∃ te, PS (cxOf CX0 P w K mg base N qual scope ad cdv A outer s0 H E).nox (.Assign [.Name y p] e pos) (tAsg te (L2.gName 1)) ∧ (∀ σ H Q, rd ⟨K, none, fa⟩ W0 (RE ⟨K, none, fa⟩) fe σ H Q → te σ H Q) ∧
      ∀ ta, PSs (cxOf CX0 P w K mg base N qual scope ad cdv A outer s0 H E).nox rest (rdX ⟨K, ta, fa⟩ W0 s)) :
    FnOk P w K mg base CX0 (k + 1) ad fd ["script"] (spLaw K (lawRun fe s N.length)) := by
  refine F.ok S (fun vs H Q E h => ?_) (fun cdv A outer s0 H vs Q E hr h => ?_)
  · obtain ⟨a, ns, rfl, _⟩ := h; rfl
  · obtain ⟨a, ns, rfl, hs, ho, hp, hQ⟩ := h
    obtain ⟨te, h1, h2, h3⟩ := hb cdv A outer s0 H E hr fun ta => ⟨rfl, rfl, by have := hr.un; show (A.deeper (envOfC qual scope s0.heap.objs.size ad cdv)).units + 70 < _; omega⟩
    refine ⟨_, PSs.nox (pss_cons h1 (PSs.ex h3)), ?_⟩
    obtain ⟨i, j, l, t, v, t', e1, e2, rfl⟩ := hp
    have ok : Ok ⟨K, none, fa⟩ (fun _ => False) H ⟨0, 0, 0⟩ := ⟨fun _ h => h.elim, fun _ h => by cases h⟩
    have rs : Rvs ⟨K, none, fa⟩ (fun _ => False) H [.scr ns] [.ref a] := by
      refine Rvs.cons ?_ Rvs.nil
      simp only [Rv]
      refine ⟨a, rfl, ?_⟩
      rcases hs with (hs | hs) | hs
      · rcases ho a with h | ⟨_, _, h⟩
        · rw [h] at hs; cases hs
        · rw [h] at hs; cases hs
      · exact .inl hs
      · exact .inr (.inr hs)
    have r0 := RelS.start (N := N) ok rs (by show 1 ≤ N.length; omega)
    refine h2 _ _ _ ⟨_, _, _, _, _, _, r0, ?_⟩
    rw [e1]
    intro x1 H1 L1 g1 rx
    simp only [RE, Rv] at rx
    obtain ⟨b, ys, rfl, lb, hb1, ry⟩ := rx
    have ey : ys = [.int i, .int j, .int l] := ry.intsOf (ns := [i, j, l]) rfl
    subst ey
    refine ⟨some b, ?_⟩
    have ok2 : Ok ⟨K, some b, fa⟩ (fun _ => False) H1 ⟨i, j, l⟩ := ⟨fun _ h => h.elim, fun c h => by cases h; exact ⟨fun h => h, hb1⟩⟩
    refine ⟨fun _ => False, H1, ⟨i, j, l⟩, fun _ => False, (env0 N.length []).set 1 (some (false, .tin)), ⟨i, j, l⟩, ?_, ?_⟩
    · refine ⟨⟨fun _ h => h, fun _ h => .inl h, fun _ _ h _ => h, ok2⟩, ok2, ?_, fun q u eq => ?_, fun _ => 0, fun q u eq => ?_, fun q q2 u u2 eq => ?_⟩
      · unfold env0 L2.start; simp; omega
      · by_cases c : 1 = q
        · subst c
          rw [getElem?_set_self' (by unfold env0; simp; omega)] at eq
          cases eq
          refine ⟨.ref b, getElem?_set_self' (by unfold L2.start; simp; omega), ?_⟩
          simp only [Rv]
          exact ⟨b, rfl, rfl⟩
        · rw [getElem?_set_ne' c] at eq
          unfold env0 at eq
          simp only [List.map_nil, List.nil_append, List.getElem?_replicate] at eq
          split at eq <;> cases eq
      · by_cases c : 1 = q
        · subst c
          rw [getElem?_set_self' (by unfold env0; simp; omega)] at eq
          cases eq
        · rw [getElem?_set_ne' c] at eq
          unfold env0 at eq
          simp only [List.map_nil, List.nil_append, List.getElem?_replicate] at eq
          split at eq <;> cases eq
      · by_cases c : 1 = q
        · subst c
          rw [getElem?_set_self' (by unfold env0; simp; omega)] at eq
          cases eq
        · rw [getElem?_set_ne' c] at eq
          unfold env0 at eq
          simp only [List.map_nil, List.nil_append, List.getElem?_replicate] at eq
          split at eq <;> cases eq
    · rw [e2]
      intro x2 H2 L2' g2 rv
      cases (show x2 = .bl true by simpa [Rv] using rv)
      exact hQ H2
end
/-! ### the hook: defs, names, tuples of the module -/
def tuOk (tu : List (PySem.Str × List He.Dv)) (K : PySem.W.Frag) : Bool := tu.all fun p => He.tupB K p.1 p.2
abbrev AlU : Type := He.AlD × Bool
def obsU (fa : List He.Fa) (fn : List He.DefD) (tu : List (PySem.Str × List He.Dv)) (K : PySem.W.Frag) : AlU := (He.obsD fa fn K, tuOk tu K)
def SaysU (fa : List He.Fa) (fn : List He.DefD) (tu : List (PySem.Str × List He.Dv)) (K : PySem.W.Frag) : Prop := obsU fa fn tu K = (He.valD fn, true)
def obsUG (n : Nat) (fa : List He.Fa) (fn : List He.DefD) (tu : List (PySem.Str × List He.Dv)) (g : Addr → Option Obj) : AlU := obsU fa fn tu (He.frG g (He.asD g n))
def hookU (n : Nat) (fa : List He.Fa) (fn : List He.DefD) (tu : List (PySem.Str × List He.Dv)) : PySem.W.Hook where
  α := AlU
  obs := fun s => obsUG n fa fn tu s.heap.get?
  val := fun _ => (He.valD fn, true)
  says := fun _ h => ∃ K : PySem.W.Frag, K.In h ∧ SaysU fa fn tu K
  of := fun _ _ e => ⟨_, He.frG_in, e⟩
  keeps := fun _ _ _ ⟨K, hK, c⟩ k => ⟨K, PySem.W.Frag.In.keeps hK k, c⟩
theorem obsUG_eq {n : Nat} {fa : List He.Fa} {fn : List He.DefD} {tu : List (PySem.Str × List He.Dv)} {g : Addr → Option Obj} {s : Shared} (h : ∀ a, g a = s.heap.get? a) : obsUG n fa fn tu g = (hookU n fa fn tu).obs s := by
  have e : g = s.heap.get? := funext h
  rw [e] <;> rfl
section
variable {fa : List He.Fa} {fn : List He.DefD} {tu : List (PySem.Str × List He.Dv)} {K : PySem.W.Frag}
theorem SaysU.d (c : SaysU fa fn tu K) : He.SaysD fa fn K := congrArg (fun z : AlU => z.1) c
theorem SaysU.t (c : SaysU fa fn tu K) : tuOk tu K = true := congrArg (fun z : AlU => z.2) c
end
/-- a function's data -/
def fdOf (K : PySem.W.Frag) (ad : Addr) : FuncData := match K.lookup ad with
  | some ⟨_, _, .func fd, _⟩ => fd
  | _ => PySem.W.fnOf "" "" ⟨[], [], none, [], [], none, []⟩ [] ⟨.function, [], false, false, []⟩ .none .none .none .none none .none .none
theorem fun_fdOf {K : PySem.W.Frag} {x qual : PySem.Str} {params : Arguments} {body : List Stmt} {scope : Scope} {dvs : List V} {kws : List (PySem.Str × V)} {ad : Addr} {fd : FuncData} (F : FunD K x qual params body scope dvs kws ad fd) : FunD K x qual params body scope dvs kws ad (fdOf K ad) := by
  have e : fdOf K ad = fd := by
    obtain ⟨oc, od, dV, kV, doc, pm, an, cdv, ct, osl, _, lk, _⟩ := F.ex
    unfold fdOf
    rw [lk]
  rw [e]; exact F
/-- what a law's defs lean on -/
structure Cn (fa : List He.Fa) (fn : List He.DefD) (tu : List (PySem.Str × List He.Dv)) (K : PySem.W.Frag) (mg : PySem.Str → Option Value) : Prop where
  s : SaysU fa fn tu K
  h : ∃ hp : Heap, K.In hp ∧ hp.Ns mainGlobals mg
section
variable {fa : List He.Fa} {fn : List He.DefD} {tu : List (PySem.Str × List He.Dv)} {K : PySem.W.Frag} {mg : PySem.Str → Option Value}
theorem Cn.f (c : Cn fa fn tu K mg) (i : Nat) {d : He.DefD} (h : fn[i]? = some d) : FunD K d.name d.qual d.params d.body d.scope (d.dvs K) (d.kws K) (He.fAd K d.at_) (fdOf K (He.fAd K d.at_)) := by
  obtain ⟨fd, F⟩ := c.s.d.def_ i h
  exact fun_fdOf F
theorem Cn.g (c : Cn fa fn tu K mg) (i : Nat) {x : PySem.Str} (h : fa[i]? = some (.glo x)) : mg x = some (.ref (He.ga K x)) := by
  obtain ⟨hp, X, G⟩ := c.h
  exact He.glo_ok X G (c.s.d.fact i h)
theorem Cn.b (c : Cn fa fn tu K mg) (i : Nat) {x : PySem.Str} (h : fa[i]? = some (.free x)) : mg x = none := by
  obtain ⟨hp, X, G⟩ := c.h
  exact He.free_ok X G (c.s.d.fact i h)
theorem Cn.i (c : Cn fa fn tu K mg) (i : Nat) {x : PySem.Str} {n : Int} (h : fa[i]? = some (.int x n)) : ∃ t, mg x = some (.int n t) := by
  obtain ⟨hp, X, G⟩ := c.h
  exact He.int_ok X G (c.s.d.fact i h)
/-- a module's number -/
theorem xgi {z : Cz} {W : Wx} {X : Cx} {x : PySem.Str} {n : Int} {pos : Pos} (c : Cn fa fn tu K mg) (i : Nat) (h : fa[i]? = some (.int x n)) (hmg : X.mg = mg) (hg : Gl X x) (hd : (x == ("__debug__" : PySem.Str)) = false := by decide) : PE X (.Name x pos) (rd z W (RE z) (eC (.int n))) := by
  obtain ⟨t, e⟩ := c.i i h
  exact xg (y := V.int n) hg (by rw [hmg]; exact e) ⟨t, rfl⟩ (fun _ _ => by simp [Rv]) hd
/-- a module's tuple of numbers -/
theorem xgt {z : Cz} {W : Wx} {X : Cx} {x : PySem.Str} {ns : List Int} {pos : Pos} (c : Cn fa fn tu K mg) (i j : Nat) (h : fa[i]? = some (.glo x)) (h2 : tu[j]? = some (x, ns.map He.Dv.int)) (hmg : X.mg = mg) (hK : z.K = K) (hg : Gl X x) (hd : (x == ("__debug__" : PySem.Str)) = false := by decide) : PE X (.Name x pos) (rd z W (RE z) (eC (.tup (ns.map Val.int)))) := by
  refine xg (y := V.ref (He.ga K x)) hg (by rw [hmg]; exact c.g i h) rfl (fun L H => ?_) hd
  have := List.all_eq_true.mp c.s.t _ (List.mem_of_getElem? h2)
  have q := He.tupB_ok this H
  simp only [Rv]
  refine ⟨_, ns.map V.int, rfl, ?_, Rvs.ofInts ns⟩
  rw [hK]
  have e : (ns.map He.Dv.int).map (He.Dv.v K) = ns.map V.int := by
    rw [List.map_map]; rfl
  rw [← e]; exact q
theorem walk_ofEB {l : PySem.W.OpenLaw} {n k : Nat} {q : Program} {loose : List PySem.Str} {XP : (PySem.Str → Option Value) → Heap → Prop} {YP : World → Heap → Prop} {d : DefRec} {CX : CXT} {x : PySem.Str}
    (hn : l.most = some n) (hn2 : n ≤ sizeLine) (hdf : d.params.defaults = []) (hr : Room k callerA)
    (F : ∀ (w : World) (mg : PySem.Str → Option Value) (fa : Addr) (h : Heap), YP w h → h.Ns mainGlobals mg → mg d.name = some (.ref fa) →
      ∃ (K : PySem.W.Frag) (fd : FuncData) (sp : Sp), K.In h ∧ (∀ (s : Shared) (u : Value), BindsTo s fd ⟨[u], []⟩ [(x, u)]) ∧
        (∀ (H : Hp) (a : Addr) (ns : List Int), ns.length ≤ n → (∀ z ∈ ns, Builtin.Int.intBits z ≤ 1048576) → Only H → SqL K H a (ns.map V.int) → sp [.ref a] H (fun v _ => v = .bl true) fun _ _ _ => False) ∧
        ∀ base : Heap, K.In base → base.Ns mainGlobals mg → FnOk l.prog w K mg base CX k fa fd [x] sp)
    (hCX : ∀ (H : Hp) (s : Shared) (e : Value) (s' : Shared), CX [] H s (fun _ _ _ => False) e s' → False) :
    PySem.W.WalkO q loose XP YP l.row.toRowW d [] (fun f vs => PySem.call f vs) := by
  refine Att.attach_callB hn hdf fun w s₀ s₁ mg mb fa o pm cd doc a vs ns G Y ho hd hcd hmg hobj hints hlen hbits hg => ?_
  obtain ⟨K, fd, sp, KX, hb, hsp, hF⟩ := F w mg fa _ Y G.T.g hmg
  exact law_call KX G.T.g G.T.b G.T.builtins G.T.nolimit hg hobj hints (Nat.le_trans hlen hn2) hr hF hb (fun H hO hS => hsp H a ns hlen hbits hO hS) fun H e s' => hCX H s₁ e s'
/-- callees by their codes -/
def gam : List (Nat × (List Val → M Val)) → Gam
  | [], _ => fun _ _ => .bad
  | p :: r, k => if k = p.1 then p.2 else gam r k
end
end Nf

namespace Nf

theorem two_step {b r s : Int} (hr : 0 < r) (hs : s = b.fmod r) (h : r ≤ b) : s * 2 < b ∧ 0 ≤ s := by
  have h1 : b.fmod r = b % r := Int.fmod_eq_emod_of_nonneg b (Int.le_of_lt hr)
  rw [h1] at hs
  have h2 := Int.emod_nonneg b (Int.ne_of_gt hr)
  have h3 := Int.emod_lt_of_pos b hr
  have h4 := Int.emod_add_mul_ediv b r
  have h5 : 1 ≤ b / r := by
    rw [Int.le_ediv_iff_mul_le hr]; omega
  have h6 : r * 1 ≤ r * (b / r) := Int.mul_le_mul_of_nonneg_left h5 (Int.le_of_lt hr)
  subst hs
  constructor <;> omega
theorem gcd_step (a b : Int) (hb : 0 < b) : Int.gcd b (a.fmod b) = Int.gcd a b := by
  rw [Int.fmod_eq_emod_of_nonneg a (Int.le_of_lt hb)]
  have h := Int.emod_add_mul_ediv a b
  refine Nat.dvd_antisymm ?_ ?_
  · refine Int.dvd_gcd ?_ (Int.gcd_dvd_left _ _)
    conv => rhs; rw [← h]
    exact Int.dvd_add (Int.gcd_dvd_right _ _) (Int.dvd_mul_of_dvd_left (Int.gcd_dvd_left _ _))
  · refine Int.dvd_gcd (Int.gcd_dvd_right _ _) ?_
    have : a % b = a - b * (a / b) := by omega
    rw [this]
    exact Int.dvd_sub (Int.gcd_dvd_left _ _) (Int.dvd_mul_of_dvd_left (Int.gcd_dvd_right _ _))
theorem sSeq_nx {a b : Nf.S} {env e' : Nf.Env} {t t' : Tin} (h : a env t = .nx e' t') : sSeq a b env t = b e' t' := by unfold sSeq; rw [h]
theorem sSeq_rt {a b : Nf.S} {env : Nf.Env} {t t' : Tin} {v : Val} (h : a env t = .rt v t') : sSeq a b env t = .rt v t' := by unfold sSeq; rw [h]
theorem runDef_rt {p n : Nat} {s : Nf.S} {args : List Val} {t t' : Tin} {v : Val} (hl : args.length = p) (h : s (Nf.env0 n args) t = .rt v t') : Nf.runDef p n s args t = .ok v t' := by unfold Nf.runDef; rw [if_pos hl, h]
theorem eCall_ok {Γ : Gam} {k : Nat} {a : A} {env : Nf.Env} {t t1 t2 : Tin} {vs : List Val} {v : Val} (h : a env t = .ok vs t1) (g : Γ k vs t1 = .ok v t2) : Nf.eCall Γ k a env t = .ok v t2 := by
  unfold Nf.eCall; rw [h, Res.bind_ok, g]; rfl
theorem aCons_ok {f : E} {a : A} {env : Nf.Env} {t t1 t2 : Tin} {v : Val} {vs : List Val} (h : f env t = .ok v t1) (g : a env t1 = .ok vs t2) : Nf.aCons f a env t = .ok (v :: vs) t2 := by
  unfold Nf.aCons; rw [h, Res.bind_ok, g]; rfl
theorem sAsg_ok {f : E} {G : Nf.G} {env e' : Nf.Env} {t t1 : Tin} {v : Val} (h : f env t = .ok v t1) (g : G v env = some e') : Nf.sAsg G f env t = .nx e' t1 := by
  unfold Nf.sAsg; rw [h, Res.toS_ok, g]
theorem sRet_ok {f : E} {env : Nf.Env} {t t1 : Tin} {v : Val} (h : f (Nf.frzAll env) t = .ok v t1) : Nf.sRet f env t = .rt v t1 := by
  unfold Nf.sRet; rw [h]; rfl
theorem forLoop_nx {G : Nf.G} {b : Nf.S} {env e1 e2 : Nf.Env} {t t1 : Tin} {x : Val} {xs : List Val} (g : G x env = some e1) (h : b e1 t = .nx e2 t1) : Nf.forLoop G b (x :: xs) env t = Nf.forLoop G b xs e2 t1 := by
  rw [Nf.forLoop, g]; simp only [h]
theorem sSeq_ret {f : E} {s : Nf.S} {env : Nf.Env} {t t1 : Tin} {v : Val} (h : f (Nf.frzAll env) t = .ok v t1) : Nf.sSeq (Nf.sRet f) s env t = .rt v t1 := sSeq_rt (sRet_ok h)
theorem iSeq_ok {f : E} {env : Nf.Env} {t t1 : Tin} {v : Val} {xs : List Val} (h : f env t = .ok v t1) (g : Nf.items v = some xs) : Nf.iSeq f env t = .ok xs t1 := by
  unfold Nf.iSeq; rw [h, Res.bind_ok, g]
theorem eComp_ok {it : Nf.It} {G : Nf.G} {own : List Nat} {c : Nf.T} {f : E} {env : Nf.Env} {t t1 t2 : Tin} {xs vs : List Val} (h : it env t = .ok xs t1) (hl : xs.length ≤ Nf.lim) (g : Nf.compLoop G c f (Nf.wipe env own) xs t1 = .ok vs t2) : Nf.eComp it G own c f env t = .ok (.lst vs) t2 := by
  unfold Nf.eComp; rw [h, Res.bind_ok, if_pos hl, g]; rfl
theorem compLoop_yes {G : Nf.G} {f : E} {env e1 : Nf.Env} {t t1 t2 : Tin} {x v : Val} {xs vs : List Val} (g : G x env = some e1) (h : f e1 t = .ok v t1) (k : Nf.compLoop G Nf.tYes f env xs t1 = .ok vs t2) : Nf.compLoop G Nf.tYes f env (x :: xs) t = .ok (v :: vs) t2 := by
  rw [Nf.compLoop, g]; simp [Nf.eVar, Nf.eOwn, Nf.eC, Nf.eOp, Nf.eUn, Nf.aNil, Nf.aCons, Nf.eTup, Nf.eLst, Nf.eB, Nf.eCall, Nf.eIf, Nf.eTin, Nf.tru, Nf.eAnd, Nf.eOr, Nf.eNot, Nf.tTru, Nf.tBl, Nf.tAnd, Nf.tOr, Nf.tNot, Nf.tYes, Nf.gName, Nf.gsL, Nf.gTup, Nf.sNil, Nf.sSeq, Nf.sBad, Nf.sBreak, Nf.sCont, Nf.frzAll, Nf.sRet, Nf.sIf, Nf.sAsg, Nf.sAsgO, Nf.putAll, Nf.sPar, Nf.sDrop, Nf.ownL, Nf.putL, Nf.sApp, Nf.sSet, Nf.sTin, Nf.env0, Nf.runDef, Nf.oAdd, Nf.oSub, Nf.oMul, Nf.oDiv, Nf.oMod, Nf.uNeg, Nf.cNe, Nf.cEq, Nf.cLt, Nf.cLe, Nf.cGt, Nf.cGe, Nf.Val.data, Nf.dataL, Nf.Val.depth, Nf.depthL, Nf.veq, Nf.veqL, Nf.oIx, Nf.ixOf, Nf.bLen, Nf.bAbs, Nf.bInt, Nf.iSeq, Nf.items, Nf.gam, h, k]
theorem sFor_ok {it : Nf.It} {G : Nf.G} {b : Nf.S} {env e' : Nf.Env} {t t1 t2 : Tin} {xs : List Val} (h : it env t = .ok xs t1) (g : Nf.forLoop G b xs env t1 = .nx e' t2) : Nf.sFor it G b env t = .nx e' t2 := by
  unfold Nf.sFor; rw [h, Res.toS_ok, g]
theorem eOp_ok {op : Val → Val → Option Val} {f g : E} {env : Nf.Env} {t t1 t2 : Tin} {v w z : Val} (h : f env t = .ok v t1) (k : g env t1 = .ok w t2) (e : op v w = some z) : Nf.eOp op f g env t = .ok z t2 := by
  unfold Nf.eOp; rw [h, Res.bind_ok, k, Res.bind_ok, e]
theorem eTup_ok {a : A} {env : Nf.Env} {t t1 : Tin} {vs : List Val} (h : a env t = .ok vs t1) (hl : vs.length ≤ Nf.lim) : Nf.eTup a env t = .ok (.tup vs) t1 := by
  unfold Nf.eTup; rw [h, Res.bind_ok, if_pos hl]
def ev (a b : Int) : Nf.Env := [some (false, Val.int a), some (false, Val.int b)]
theorem gcd_loop : ∀ (m : Nat) (a b : Int) (n : Nat) (t : Tin), 0 ≤ b → b < 2 ^ m → 2 * m + 2 ≤ n →
    ∃ g : Int, whileN (tBl (eOp cNe (eVar 1) (eC (.int 0)))) (sSeq (sPar [(0, false), (1, false)] (aCons (eVar 1) (aCons (eOp oMod (eVar 0) (eVar 1)) aNil))) sNil) n (ev a b) t = .nx (ev g 0) t ∧ g.natAbs = Int.gcd a b
  | m, a, b, 0, t, h0, hb, hn => by omega
  | 0, a, b, n + 1, t, h0, hb, hn => by
    have : b = 0 := by simp at hb; omega
    subst this
    exact ⟨a, by simp [Nf.eVar, Nf.eOwn, Nf.eC, Nf.eOp, Nf.eUn, Nf.aNil, Nf.aCons, Nf.eTup, Nf.eLst, Nf.eB, Nf.eCall, Nf.eIf, Nf.eTin, Nf.tru, Nf.eAnd, Nf.eOr, Nf.eNot, Nf.tTru, Nf.tBl, Nf.tAnd, Nf.tOr, Nf.tNot, Nf.tYes, Nf.gName, Nf.gsL, Nf.gTup, Nf.sNil, Nf.sSeq, Nf.sBad, Nf.sBreak, Nf.sCont, Nf.frzAll, Nf.sRet, Nf.sIf, Nf.sAsg, Nf.sAsgO, Nf.putAll, Nf.sPar, Nf.sDrop, Nf.ownL, Nf.putL, Nf.sApp, Nf.sSet, Nf.sTin, Nf.env0, Nf.runDef, Nf.oAdd, Nf.oSub, Nf.oMul, Nf.oDiv, Nf.oMod, Nf.uNeg, Nf.cNe, Nf.cEq, Nf.cLt, Nf.cLe, Nf.cGt, Nf.cGe, Nf.Val.data, Nf.dataL, Nf.Val.depth, Nf.depthL, Nf.veq, Nf.veqL, Nf.oIx, Nf.ixOf, Nf.bLen, Nf.bAbs, Nf.bInt, Nf.iSeq, Nf.items, Nf.gam, whileN, ev], by simp⟩
  | m + 1, a, b, 1, t, h0, hb, hn => by omega
  | m + 1, a, b, n + 2, t, h0, hb, hn => by
    by_cases e : b = 0
    · subst e
      exact ⟨a, by simp [Nf.eVar, Nf.eOwn, Nf.eC, Nf.eOp, Nf.eUn, Nf.aNil, Nf.aCons, Nf.eTup, Nf.eLst, Nf.eB, Nf.eCall, Nf.eIf, Nf.eTin, Nf.tru, Nf.eAnd, Nf.eOr, Nf.eNot, Nf.tTru, Nf.tBl, Nf.tAnd, Nf.tOr, Nf.tNot, Nf.tYes, Nf.gName, Nf.gsL, Nf.gTup, Nf.sNil, Nf.sSeq, Nf.sBad, Nf.sBreak, Nf.sCont, Nf.frzAll, Nf.sRet, Nf.sIf, Nf.sAsg, Nf.sAsgO, Nf.putAll, Nf.sPar, Nf.sDrop, Nf.ownL, Nf.putL, Nf.sApp, Nf.sSet, Nf.sTin, Nf.env0, Nf.runDef, Nf.oAdd, Nf.oSub, Nf.oMul, Nf.oDiv, Nf.oMod, Nf.uNeg, Nf.cNe, Nf.cEq, Nf.cLt, Nf.cLe, Nf.cGt, Nf.cGe, Nf.Val.data, Nf.dataL, Nf.Val.depth, Nf.depthL, Nf.veq, Nf.veqL, Nf.oIx, Nf.ixOf, Nf.bLen, Nf.bAbs, Nf.bInt, Nf.iSeq, Nf.items, Nf.gam, whileN, ev], by simp⟩
    have hp : 0 < b := by omega
    have e1 : a.fmod b = a % b := Int.fmod_eq_emod_of_nonneg a h0
    have r0 := Int.emod_nonneg a e
    have r1 := Int.emod_lt_of_pos a hp
    by_cases e2 : a.fmod b = 0
    · refine ⟨b, by simp [Nf.eVar, Nf.eOwn, Nf.eC, Nf.eOp, Nf.eUn, Nf.aNil, Nf.aCons, Nf.eTup, Nf.eLst, Nf.eB, Nf.eCall, Nf.eIf, Nf.eTin, Nf.tru, Nf.eAnd, Nf.eOr, Nf.eNot, Nf.tTru, Nf.tBl, Nf.tAnd, Nf.tOr, Nf.tNot, Nf.tYes, Nf.gName, Nf.gsL, Nf.gTup, Nf.sNil, Nf.sSeq, Nf.sBad, Nf.sBreak, Nf.sCont, Nf.frzAll, Nf.sRet, Nf.sIf, Nf.sAsg, Nf.sAsgO, Nf.putAll, Nf.sPar, Nf.sDrop, Nf.ownL, Nf.putL, Nf.sApp, Nf.sSet, Nf.sTin, Nf.env0, Nf.runDef, Nf.oAdd, Nf.oSub, Nf.oMul, Nf.oDiv, Nf.oMod, Nf.uNeg, Nf.cNe, Nf.cEq, Nf.cLt, Nf.cLe, Nf.cGt, Nf.cGe, Nf.Val.data, Nf.dataL, Nf.Val.depth, Nf.depthL, Nf.veq, Nf.veqL, Nf.oIx, Nf.ixOf, Nf.bLen, Nf.bAbs, Nf.bInt, Nf.iSeq, Nf.items, Nf.gam, whileN, ev, e, e2], ?_⟩
      rw [← gcd_step a b hp, e2]; simp
    · have hr : 0 < a.fmod b := by omega
      have hs := two_step hr rfl (by omega : a.fmod b ≤ b)
      obtain ⟨g, hg, hv⟩ := gcd_loop m (a.fmod b) (b.fmod (a.fmod b)) n t hs.2 (by rw [Int.pow_succ] at hb; omega) (by omega)
      refine ⟨g, ?_, ?_⟩
      · rw [← hg]
        simp [Nf.eVar, Nf.eOwn, Nf.eC, Nf.eOp, Nf.eUn, Nf.aNil, Nf.aCons, Nf.eTup, Nf.eLst, Nf.eB, Nf.eCall, Nf.eIf, Nf.eTin, Nf.tru, Nf.eAnd, Nf.eOr, Nf.eNot, Nf.tTru, Nf.tBl, Nf.tAnd, Nf.tOr, Nf.tNot, Nf.tYes, Nf.gName, Nf.gsL, Nf.gTup, Nf.sNil, Nf.sSeq, Nf.sBad, Nf.sBreak, Nf.sCont, Nf.frzAll, Nf.sRet, Nf.sIf, Nf.sAsg, Nf.sAsgO, Nf.putAll, Nf.sPar, Nf.sDrop, Nf.ownL, Nf.putL, Nf.sApp, Nf.sSet, Nf.sTin, Nf.env0, Nf.runDef, Nf.oAdd, Nf.oSub, Nf.oMul, Nf.oDiv, Nf.oMod, Nf.uNeg, Nf.cNe, Nf.cEq, Nf.cLt, Nf.cLe, Nf.cGt, Nf.cGe, Nf.Val.data, Nf.dataL, Nf.Val.depth, Nf.depthL, Nf.veq, Nf.veqL, Nf.oIx, Nf.ixOf, Nf.bLen, Nf.bAbs, Nf.bInt, Nf.iSeq, Nf.items, Nf.gam, whileN, ev, e, e2]
      · rw [hv, gcd_step b _ hr, gcd_step a b hp]
def gcdV : List Val → M Val
  | [.int a, .int b], t => if 0 ≤ b ∧ b < 2 ^ 4000 then .ok (.int (Int.gcd a b)) t else .bad
  | _, _ => .bad

def lv (a b : Int) (o : Option (Bool × Val)) : Nf.Env := [some (false, Val.int a), some (false, Val.int b), o]
abbrev gcdBody : Nf.S := (sSeq (sIf (tBl (eOp cEq (eVar 1) (eC (.int 0)))) (sSeq sBreak sNil) sNil) (sSeq (sPar [(0, false), (1, false)] (aCons (eVar 1) (aCons (eOp oMod (eVar 0) (eVar 1)) aNil))) sNil))
theorem gcd_for : ∀ (m : Nat) (a b : Int) (o : Option (Bool × Val)) (xs : List Val) (t : Tin), 0 ≤ a → 0 ≤ b → b < 2 ^ m → 2 * m + 2 ≤ xs.length →
    ∃ o', forLoop (Nf.gName 2) gcdBody xs (lv a b o) t = .nx (lv (Int.gcd a b) 0 o') t
  | m, a, b, o, [], t, ha, h0, hb, hn => by simp at hn
  | 0, a, b, o, x :: xs, t, ha, h0, hb, hn => by
    have : b = 0 := by simp at hb; omega
    subst this
    refine ⟨some (false, x), ?_⟩
    simp [Nf.eVar, Nf.eOwn, Nf.eC, Nf.eOp, Nf.eUn, Nf.aNil, Nf.aCons, Nf.eTup, Nf.eLst, Nf.eB, Nf.eCall, Nf.eIf, Nf.eTin, Nf.tru, Nf.eAnd, Nf.eOr, Nf.eNot, Nf.tTru, Nf.tBl, Nf.tAnd, Nf.tOr, Nf.tNot, Nf.tYes, Nf.gName, Nf.gsL, Nf.gTup, Nf.sNil, Nf.sSeq, Nf.sBad, Nf.sBreak, Nf.sCont, Nf.frzAll, Nf.sRet, Nf.sIf, Nf.sAsg, Nf.sAsgO, Nf.putAll, Nf.sPar, Nf.sDrop, Nf.ownL, Nf.putL, Nf.sApp, Nf.sSet, Nf.sTin, Nf.env0, Nf.runDef, Nf.oAdd, Nf.oSub, Nf.oMul, Nf.oDiv, Nf.oMod, Nf.uNeg, Nf.cNe, Nf.cEq, Nf.cLt, Nf.cLe, Nf.cGt, Nf.cGe, Nf.Val.data, Nf.dataL, Nf.Val.depth, Nf.depthL, Nf.veq, Nf.veqL, Nf.oIx, Nf.ixOf, Nf.bLen, Nf.bAbs, Nf.bInt, Nf.iSeq, Nf.items, Nf.gam, forLoop, lv]
    omega
  | m + 1, a, b, o, [x], t, ha, h0, hb, hn => by simp at hn
  | m + 1, a, b, o, x :: y :: xs, t, ha, h0, hb, hn => by
    by_cases e : b = 0
    · subst e
      refine ⟨some (false, x), ?_⟩
      simp [Nf.eVar, Nf.eOwn, Nf.eC, Nf.eOp, Nf.eUn, Nf.aNil, Nf.aCons, Nf.eTup, Nf.eLst, Nf.eB, Nf.eCall, Nf.eIf, Nf.eTin, Nf.tru, Nf.eAnd, Nf.eOr, Nf.eNot, Nf.tTru, Nf.tBl, Nf.tAnd, Nf.tOr, Nf.tNot, Nf.tYes, Nf.gName, Nf.gsL, Nf.gTup, Nf.sNil, Nf.sSeq, Nf.sBad, Nf.sBreak, Nf.sCont, Nf.frzAll, Nf.sRet, Nf.sIf, Nf.sAsg, Nf.sAsgO, Nf.putAll, Nf.sPar, Nf.sDrop, Nf.ownL, Nf.putL, Nf.sApp, Nf.sSet, Nf.sTin, Nf.env0, Nf.runDef, Nf.oAdd, Nf.oSub, Nf.oMul, Nf.oDiv, Nf.oMod, Nf.uNeg, Nf.cNe, Nf.cEq, Nf.cLt, Nf.cLe, Nf.cGt, Nf.cGe, Nf.Val.data, Nf.dataL, Nf.Val.depth, Nf.depthL, Nf.veq, Nf.veqL, Nf.oIx, Nf.ixOf, Nf.bLen, Nf.bAbs, Nf.bInt, Nf.iSeq, Nf.items, Nf.gam, forLoop, lv]
      omega
    have hp : 0 < b := by omega
    have e1 : a.fmod b = a % b := Int.fmod_eq_emod_of_nonneg a h0
    have r0 := Int.emod_nonneg a e
    have r1 := Int.emod_lt_of_pos a hp
    by_cases e2 : a.fmod b = 0
    · refine ⟨some (false, y), ?_⟩
      rw [← gcd_step a b hp, e2]
      simp [Nf.eVar, Nf.eOwn, Nf.eC, Nf.eOp, Nf.eUn, Nf.aNil, Nf.aCons, Nf.eTup, Nf.eLst, Nf.eB, Nf.eCall, Nf.eIf, Nf.eTin, Nf.tru, Nf.eAnd, Nf.eOr, Nf.eNot, Nf.tTru, Nf.tBl, Nf.tAnd, Nf.tOr, Nf.tNot, Nf.tYes, Nf.gName, Nf.gsL, Nf.gTup, Nf.sNil, Nf.sSeq, Nf.sBad, Nf.sBreak, Nf.sCont, Nf.frzAll, Nf.sRet, Nf.sIf, Nf.sAsg, Nf.sAsgO, Nf.putAll, Nf.sPar, Nf.sDrop, Nf.ownL, Nf.putL, Nf.sApp, Nf.sSet, Nf.sTin, Nf.env0, Nf.runDef, Nf.oAdd, Nf.oSub, Nf.oMul, Nf.oDiv, Nf.oMod, Nf.uNeg, Nf.cNe, Nf.cEq, Nf.cLt, Nf.cLe, Nf.cGt, Nf.cGe, Nf.Val.data, Nf.dataL, Nf.Val.depth, Nf.depthL, Nf.veq, Nf.veqL, Nf.oIx, Nf.ixOf, Nf.bLen, Nf.bAbs, Nf.bInt, Nf.iSeq, Nf.items, Nf.gam, forLoop, lv, e, e2]
      omega
    · have hr : 0 < a.fmod b := by omega
      have hs := two_step hr rfl (by omega : a.fmod b ≤ b)
      obtain ⟨o', hg⟩ := gcd_for m (a.fmod b) (b.fmod (a.fmod b)) (some (false, y)) xs t (by omega) hs.2 (by rw [Int.pow_succ] at hb; omega) (by simp at hn; omega)
      refine ⟨o', ?_⟩
      rw [gcd_step b _ hr, gcd_step a b hp] at hg
      rw [← hg]
      simp [Nf.eVar, Nf.eOwn, Nf.eC, Nf.eOp, Nf.eUn, Nf.aNil, Nf.aCons, Nf.eTup, Nf.eLst, Nf.eB, Nf.eCall, Nf.eIf, Nf.eTin, Nf.tru, Nf.eAnd, Nf.eOr, Nf.eNot, Nf.tTru, Nf.tBl, Nf.tAnd, Nf.tOr, Nf.tNot, Nf.tYes, Nf.gName, Nf.gsL, Nf.gTup, Nf.sNil, Nf.sSeq, Nf.sBad, Nf.sBreak, Nf.sCont, Nf.frzAll, Nf.sRet, Nf.sIf, Nf.sAsg, Nf.sAsgO, Nf.putAll, Nf.sPar, Nf.sDrop, Nf.ownL, Nf.putL, Nf.sApp, Nf.sSet, Nf.sTin, Nf.env0, Nf.runDef, Nf.oAdd, Nf.oSub, Nf.oMul, Nf.oDiv, Nf.oMod, Nf.uNeg, Nf.cNe, Nf.cEq, Nf.cLt, Nf.cLe, Nf.cGt, Nf.cGe, Nf.Val.data, Nf.dataL, Nf.Val.depth, Nf.depthL, Nf.veq, Nf.veqL, Nf.oIx, Nf.ixOf, Nf.bLen, Nf.bAbs, Nf.bInt, Nf.iSeq, Nf.items, Nf.gam, forLoop, lv, e, e2]
def gcdL : List Val → M Val
  | [.int a, .int b], t => if b.natAbs < 2 ^ 4000 then .ok (.int (Int.gcd a b)) t else .bad
  | _, _ => .bad
/-! ### fractions -/
def sm (x : Int) : Bool := Nat.ble (Nat.succ x.natAbs) (Nat.pow 2 1500)
theorem sm_nat {x : Int} (h : sm x = true) : x.natAbs < 2 ^ 1500 := Nat.le_of_ble_eq_true h
theorem sm_log {x : Int} (h : sm x = true) : x.natAbs.log2 < 1500 := by
  have h := sm_nat h
  by_cases e : x.natAbs = 0
  · rw [e]; decide
  · exact (Nat.log2_lt e).mpr h
theorem sm_bits {x y : Int} (h : sm x = true) (g : sm y = true) : bitsOk x y = true := by
  have h1 := sm_log h
  have h2 := sm_log g
  exact decide_eq_true (by omega)
theorem sm_lt {x : Int} (h : sm x = true) : x < 2 ^ 1500 := by
  have h := sm_nat h
  have h2 : (x.natAbs : Int) < ((2 ^ 1500 : Nat) : Int) := by exact_mod_cast h
  have h3 : ((2 ^ 1500 : Nat) : Int) = (2 : Int) ^ 1500 := by simp
  rw [h3] at h2
  omega
def pr (q : Int × Int) : Val := .tup [.int q.1, .int q.2]
@[simp] theorem pr_def (q : Int × Int) : pr q = .tup [.int q.1, .int q.2] := rfl
def slimF (a b : Int) : Int × Int := (a.fdiv (Int.gcd a b), b.fdiv (Int.gcd a b))
theorem gcd_pos {a b : Int} (h : 0 < b) : (Int.gcd a b : Int) ≠ 0 := by
  have := Int.gcd_pos_of_ne_zero_right a (Int.ne_of_gt h)
  omega
theorem gcd_log {a b : Int} (h : 0 < b) (h2 : b < 2 ^ 4000) : (Int.gcd a b : Int).natAbs.log2 < 9000 := by
  have h3 : Int.gcd a b ≤ b.natAbs := Nat.le_of_dvd (by omega) (by have := Int.natAbs_dvd_natAbs.mpr (Int.gcd_dvd_right a b); simpa using this)
  have h4 : (Int.gcd a b : Int).natAbs = Int.gcd a b := by simp
  rw [h4]
  have h5 : Int.gcd a b ≠ 0 := by have := gcd_pos (a := a) h; omega
  rw [Nat.log2_lt h5]
  have h6 : b.natAbs < 2 ^ 4000 := by
    have h7 : ((b.natAbs : Nat) : Int) < ((2 ^ 4000 : Nat) : Int) := by
      have h3 : ((2 ^ 4000 : Nat) : Int) = (2 : Int) ^ 4000 := by simp
      rw [h3]; omega
    exact_mod_cast h7
  exact Nat.lt_of_le_of_lt h3 (Nat.lt_trans h6 (Nat.pow_lt_pow_right (by decide) (by decide)))
def slimV : List Val → M Val
  | [.int a, .int b], t => if 0 < b ∧ b < 2 ^ 4000 then .ok (pr (slimF a b)) t else .bad
  | _, _ => .bad
def pos (b : Int) : Bool := Nat.ble 1 b.toNat
theorem pos_iff {b : Int} : pos b = true ↔ 0 < b := by
  unfold pos
  rw [Nat.ble_eq]
  omega
def prodOk (a b c d : Int) : Bool := sm a && sm b && sm c && sm d && pos b && pos d
theorem prodOk_iff {a b c d : Int} (h : prodOk a b c d = true) : sm a = true ∧ sm b = true ∧ sm c = true ∧ sm d = true ∧ 0 < b ∧ 0 < d := by
  simp only [prodOk, Bool.and_eq_true, pos_iff] at h
  obtain ⟨⟨⟨⟨⟨h1, h2⟩, h3⟩, h4⟩, h5⟩, h6⟩ := h
  exact ⟨h1, h2, h3, h4, h5, h6⟩
theorem prod_lt {b d : Int} (hb : sm b = true) (hd : sm d = true) (h0 : 0 < b) (h1 : 0 < d) : 0 < b * d ∧ b * d < 2 ^ 4000 := by
  refine ⟨Int.mul_pos h0 h1, ?_⟩
  have h2 := sm_lt hb
  have h3 := sm_lt hd
  have h4 : b * d < 2 ^ 1500 * 2 ^ 1500 := Int.lt_of_lt_of_le (Int.mul_lt_mul_of_pos_right h2 h1) (Int.mul_le_mul_of_nonneg_left (Int.le_of_lt h3) (Int.le_of_lt (Int.pow_pos (by decide))))
  rw [← Int.pow_add] at h4
  exact Int.lt_trans h4 (Int.pow_lt_pow_of_lt (by decide) (by decide))
def timesV : List Val → M Val
  | [.tup [.int a, .int b], .tup [.int c, .int d]], t => if prodOk a b c d = true then .ok (pr (slimF (a * c) (b * d))) t else .bad
  | _, _ => .bad
def plusV : List Val → M Val
  | [.tup [.int a, .int b], .tup [.int c, .int d]], t => if prodOk a b c d = true then .ok (pr (slimF (a * d + c * b) (b * d))) t else .bad
  | _, _ => .bad
def leastV : List Val → M Val
  | [.int a, .int b], t => if (pos b && sm b && sm (a.fdiv (Int.gcd a b))) = true then .ok (.int (a.fdiv (Int.gcd a b) * b)) t else .bad
  | _, _ => .bad
def pairsOf : List Val → Option (List (Int × Int))
  | [] => some []
  | .tup [.int a, .int b] :: r => (pairsOf r).map ((a, b) :: ·)
  | _ => none
theorem pairsOf_eq : ∀ {ps : List Val} {qs : List (Int × Int)}, pairsOf ps = some qs → ps = qs.map pr
  | [], qs, h => by simp only [pairsOf, Option.some.injEq] at h; subst h; rfl
  | p :: r, qs, h => by
    unfold pairsOf at h
    split at h
    · rename_i e; cases e
    · rename_i a b r' e
      cases e
      simp only [Option.map_eq_some_iff] at h
      obtain ⟨qs', h1, rfl⟩ := h
      rw [pairsOf_eq h1]; rfl
    · cases h
def timesO (p q : Int × Int) : Option (Int × Int) := if prodOk p.1 p.2 q.1 q.2 = true then some (slimF (p.1 * q.1) (p.2 * q.2)) else none
def plusO (p q : Int × Int) : Option (Int × Int) := if prodOk p.1 p.2 q.1 q.2 = true then some (slimF (p.1 * q.2 + q.1 * p.2) (p.2 * q.2)) else none
theorem timesV_O {p q r : Int × Int} {t : Tin} (h : timesO p q = some r) : timesV [pr p, pr q] t = .ok (pr r) t := by
  obtain ⟨a, b⟩ := p
  obtain ⟨c, d⟩ := q
  unfold timesO at h
  by_cases hb : prodOk a b c d = true
  · simp only [hb, if_true, Option.some.injEq] at h
    subst h
    show (if prodOk a b c d = true then _ else _) = _
    rw [if_pos hb]
  · simp only [hb, Bool.false_eq_true, if_false] at h; cases h
theorem plusV_O {p q r : Int × Int} {t : Tin} (h : plusO p q = some r) : plusV [pr p, pr q] t = .ok (pr r) t := by
  obtain ⟨a, b⟩ := p
  obtain ⟨c, d⟩ := q
  unfold plusO at h
  by_cases hb : prodOk a b c d = true
  · simp only [hb, if_true, Option.some.injEq] at h
    subst h
    show (if prodOk a b c d = true then _ else _) = _
    rw [if_pos hb]
  · simp only [hb, Bool.false_eq_true, if_false] at h; cases h
def valueO (n : Int) : List (Int × Int) → Int × Int → Option (Int × Int)
  | [], q => some q
  | p :: ps, q => match timesO q (n, 1) with
    | some r => (match plusO r p with
      | some s => valueO n ps s
      | none => none)
    | none => none
theorem valueO_nil (n : Int) (q : Int × Int) : valueO n [] q = some q := rfl
theorem valueO_cons (n : Int) (p q : Int × Int) (ps : List (Int × Int)) : valueO n (p :: ps) q = match timesO q (n, 1) with
    | some r => (match plusO r p with
      | some s => valueO n ps s
      | none => none)
    | none => none := rfl
def valueV : List Val → M Val
  | [.tup ps, .int n], t => match pairsOf ps with
    | some qs => (match valueO n qs.reverse (0, 1) with
      | some q => .ok (pr q) t
      | none => .bad)
    | none => .bad
  | _, _ => .bad
def lcmO : List (Int × Int) → Int → Option Int
  | [], u => some u
  | q :: r, u => if (pos q.2 && sm q.2 && sm (u.fdiv (Int.gcd u q.2))) = true then lcmO r (u.fdiv (Int.gcd u q.2) * q.2) else none
def rowO (u : Int) : List (Int × Int) → Option (List Int)
  | [] => some []
  | q :: r => if (pos q.2 && sm q.2 && sm q.1 && sm (u.fdiv q.2)) = true then (match rowO u r with
    | some l => some (q.1 * u.fdiv q.2 :: l)
    | none => none) else none
def wholeO (qs : List (Int × Int)) : Option (Int × List Int) := match lcmO qs 1 with
  | some u => (match rowO u qs with
    | some l => some (u, l)
    | none => none)
  | none => none
theorem lcmO_nil (u : Int) : lcmO [] u = some u := rfl
theorem lcmO_cons (q : Int × Int) (r : List (Int × Int)) (u : Int) : lcmO (q :: r) u = if (pos q.2 && sm q.2 && sm (u.fdiv (Int.gcd u q.2))) = true then lcmO r (u.fdiv (Int.gcd u q.2) * q.2) else none := rfl
theorem rowO_cons (u : Int) (q : Int × Int) (r : List (Int × Int)) : rowO u (q :: r) = if (pos q.2 && sm q.2 && sm q.1 && sm (u.fdiv q.2)) = true then (match rowO u r with
    | some l => some (q.1 * u.fdiv q.2 :: l)
    | none => none) else none := rfl
theorem leastV_O {u : Int} {q : Int × Int} {t : Tin} (h : (pos q.2 && sm q.2 && sm (u.fdiv (Int.gcd u q.2))) = true) : leastV [.int u, .int q.2] t = .ok (.int (u.fdiv (Int.gcd u q.2) * q.2)) t := by
  show (if (pos q.2 && sm q.2 && sm (u.fdiv (Int.gcd u q.2))) = true then _ else _) = _
  rw [if_pos h]
def wholeV : List Val → M Val
  | [.tup ps], t => match pairsOf ps with
    | some qs => (match (if qs.length ≤ lim then wholeO qs else none) with
      | some (u, l) => .ok (.tup [.int u, .lst (l.map Val.int)]) t
      | none => .bad)
    | none => .bad
  | _, _ => .bad
def hornO (n : Int) : List Int → Int → Option Int
  | [], q => some q
  | a :: r, q => if (sm q && sm n) = true then hornO n r (q * n + a) else none
theorem hornO_nil (n q : Int) : hornO n [] q = some q := rfl
theorem hornO_cons (n q a : Int) (r : List Int) : hornO n (a :: r) q = if (sm q && sm n) = true then hornO n r (q * n + a) else none := rfl
def valueInV : List Val → M Val
  | [.tup ps, .int n], t => match pairsOf ps with
    | some qs => (match (if qs.length ≤ lim then wholeO qs else none) with
      | some (u, l) => (match hornO n l.reverse 0 with
        | some h => if 0 < u ∧ u < 2 ^ 4000 then .ok (pr (slimF h u)) t else .bad
        | none => .bad)
      | none => .bad)
    | none => .bad
  | _, _ => .bad
end Nf

namespace NfLaw
open PySem PySem.Spec PyProof.Rows L2 Nf
def top (i : Nat) : Stmt := PySem.Challenge.pw_neverfraction_k44_across_chosen_by_figur.main.body.getD i (.Pass ⟨0, 0, 0, 0⟩)
def d_is_number : He.DefD := ⟨("is_number", none), "is_number", "is_number", defArgs (top 5), defBody (top 5), defScope (top 5), [], []⟩
def d_is_within : He.DefD := ⟨("is_within", none), "is_within", "is_within", defArgs (top 6), defBody (top 6), defScope (top 6), [], []⟩
def d_sure_within : He.DefD := ⟨("sure_within", none), "sure_within", "sure_within", defArgs (top 7), defBody (top 7), defScope (top 7), [], []⟩
def d_is_long : He.DefD := ⟨("is_long", none), "is_long", "is_long", defArgs (top 8), defBody (top 8), defScope (top 8), [], []⟩
def d_are_numbers : He.DefD := ⟨("are_numbers", none), "are_numbers", "are_numbers", defArgs (top 9), defBody (top 9), defScope (top 9), [], []⟩
def d_tupled : He.DefD := ⟨("tupled", none), "tupled", "tupled", defArgs (top 10), defBody (top 10), defScope (top 10), [], []⟩
def d_common_of : He.DefD := ⟨("common_of", none), "common_of", "common_of", defArgs (top 11), defBody (top 11), defScope (top 11), [], []⟩
def d_least_of : He.DefD := ⟨("least_of", none), "least_of", "least_of", defArgs (top 12), defBody (top 12), defScope (top 12), [], []⟩
def d_slim : He.DefD := ⟨("slim", none), "slim", "slim", defArgs (top 13), defBody (top 13), defScope (top 13), [], []⟩
def d_times : He.DefD := ⟨("times", none), "times", "times", defArgs (top 14), defBody (top 14), defScope (top 14), [], []⟩
def d_is_fraction : He.DefD := ⟨("is_fraction", none), "is_fraction", "is_fraction", defArgs (top 15), defBody (top 15), defScope (top 15), [], []⟩
def d_primes_of : He.DefD := ⟨("primes_of", none), "primes_of", "primes_of", defArgs (top 16), defBody (top 16), defScope (top 16), [], []⟩
def d_power_in : He.DefD := ⟨("power_in", none), "power_in", "power_in", defArgs (top 17), defBody (top 17), defScope (top 17), [], []⟩
def d_is_poly : He.DefD := ⟨("is_poly", none), "is_poly", "is_poly", defArgs (top 22), defBody (top 22), defScope (top 22), [], []⟩
def d_sure_poly : He.DefD := ⟨("sure_poly", none), "sure_poly", "sure_poly", defArgs (top 23), defBody (top 23), defScope (top 23), [], []⟩
def d_bare : He.DefD := ⟨("bare", none), "bare", "bare", defArgs (top 24), defBody (top 24), defScope (top 24), [], []⟩
def d_scaled_in : He.DefD := ⟨("scaled_in", none), "scaled_in", "scaled_in", defArgs (top 25), defBody (top 25), defScope (top 25), [], []⟩
def d_whole_row : He.DefD := ⟨("whole_row", none), "whole_row", "whole_row", defArgs (top 26), defBody (top 26), defScope (top 26), [], []⟩
def d_value_in : He.DefD := ⟨("value_in", none), "value_in", "value_in", defArgs (top 27), defBody (top 27), defScope (top 27), [], []⟩
def d_roots_product : He.DefD := ⟨("roots_product", none), "roots_product", "roots_product", defArgs (top 28), defBody (top 28), defScope (top 28), [], []⟩
def d_is_all_whole : He.DefD := ⟨("is_all_whole", none), "is_all_whole", "is_all_whole", defArgs (top 29), defBody (top 29), defScope (top 29), [], []⟩
def d_chosen_in : He.DefD := ⟨("chosen_in", none), "chosen_in", "chosen_in", defArgs (top 31), defBody (top 31), defScope (top 31), [], []⟩
def d_chosen_poly : He.DefD := ⟨("chosen_poly", none), "chosen_poly", "chosen_poly", defArgs (top 32), defBody (top 32), defScope (top 32), [], []⟩
def d_sure_rests : He.DefD := ⟨("sure_rests", none), "sure_rests", "sure_rests", defArgs (top 37), defBody (top 37), defScope (top 37), [], []⟩
def d_power_of : He.DefD := ⟨("power_of", none), "power_of", "power_of", defArgs (top 38), defBody (top 38), defScope (top 38), [], []⟩
def d_clash_in : He.DefD := ⟨("clash_in", none), "clash_in", "clash_in", defArgs (top 39), defBody (top 39), defScope (top 39), [], []⟩
def d_reach_of : He.DefD := ⟨("reach_of", none), "reach_of", "reach_of", defArgs (top 40), defBody (top 40), defScope (top 40), [], []⟩
def d_can_tell_rests : He.DefD := ⟨("can_tell_rests", none), "can_tell_rests", "can_tell_rests", defArgs (top 41), defBody (top 41), defScope (top 41), [], []⟩
def d_tells_rests : He.DefD := ⟨("tells_rests", none), "tells_rests", "tells_rests", defArgs (top 42), defBody (top 42), defScope (top 42), [], []⟩
def d_is_rests_poly : He.DefD := ⟨("is_rests_poly", none), "is_rests_poly", "is_rests_poly", defArgs (top 43), defBody (top 43), defScope (top 43), [], []⟩
def d_sure_whole : He.DefD := ⟨("sure_whole", none), "sure_whole", "sure_whole", defArgs (top 44), defBody (top 44), defScope (top 44), [], []⟩
def d_long_round : He.DefD := ⟨("long_round", none), "long_round", "long_round", defArgs (top 45), defBody (top 45), defScope (top 45), [], []⟩
def d_poly_rests : He.DefD := ⟨("poly_rests", none), "poly_rests", "poly_rests", defArgs (top 46), defBody (top 46), defScope (top 46), [], []⟩
def d__law_box : He.DefD := ⟨("_law_box", none), "_law_box", "_law_box", defArgs (top 48), defBody (top 48), defScope (top 48), [], []⟩
def d__law_take : He.DefD := ⟨("_law_take", none), "_law_take", "_law_take", defArgs (top 49), defBody (top 49), defScope (top 49), [], []⟩
def d__law_cells : He.DefD := ⟨("_law_cells", none), "_law_cells", "_law_cells", defArgs (top 50), defBody (top 50), defScope (top 50), [], []⟩
def d__law_of : He.DefD := ⟨("_law_of", none), "_law_of", "_law_of", defArgs (top 51), defBody (top 51), defScope (top 51), [], []⟩
def d__law_same : He.DefD := ⟨("_law_same", none), "_law_same", "_law_same", defArgs (top 52), defBody (top 52), defScope (top 52), [], []⟩
def d__law_gcd : He.DefD := ⟨("_law_gcd", none), "_law_gcd", "_law_gcd", defArgs (top 53), defBody (top 53), defScope (top 53), [], []⟩
def d__law_slim : He.DefD := ⟨("_law_slim", none), "_law_slim", "_law_slim", defArgs (top 54), defBody (top 54), defScope (top 54), [], []⟩
def d__law_plus : He.DefD := ⟨("_law_plus", none), "_law_plus", "_law_plus", defArgs (top 55), defBody (top 55), defScope (top 55), [], []⟩
def d__law_times : He.DefD := ⟨("_law_times", none), "_law_times", "_law_times", defArgs (top 56), defBody (top 56), defScope (top 56), [], []⟩
def d__law_thin : He.DefD := ⟨("_law_thin", none), "_law_thin", "_law_thin", defArgs (top 57), defBody (top 57), defScope (top 57), [], []⟩
def d__law_scale : He.DefD := ⟨("_law_scale", none), "_law_scale", "_law_scale", defArgs (top 58), defBody (top 58), defScope (top 58), [], []⟩
def d__law_mul : He.DefD := ⟨("_law_mul", none), "_law_mul", "_law_mul", defArgs (top 59), defBody (top 59), defScope (top 59), [], []⟩
def d__law_value : He.DefD := ⟨("_law_value", none), "_law_value", "_law_value", defArgs (top 60), defBody (top 60), defScope (top 60), [], []⟩
def d__law_roots : He.DefD := ⟨("_law_roots", none), "_law_roots", "_law_roots", defArgs (top 61), defBody (top 61), defScope (top 61), [], []⟩
def d__law_chosen : He.DefD := ⟨("_law_chosen", none), "_law_chosen", "_law_chosen", defArgs (top 62), defBody (top 62), defScope (top 62), [], []⟩
def d__law_few : He.DefD := ⟨("_law_few", none), "_law_few", "_law_few", defArgs (top 63), defBody (top 63), defScope (top 63), [], []⟩
def d__law_due : He.DefD := ⟨("_law_due", none), "_law_due", "_law_due", defArgs (top 64), defBody (top 64), defScope (top 64), [], []⟩
def d__law_right : He.DefD := ⟨("_law_right", none), "_law_right", "_law_right", defArgs (top 65), defBody (top 65), defScope (top 65), [], []⟩
def d_law : He.DefD := ⟨("law", none), "law", "law", defArgs (top 66), defBody (top 66), defScope (top 66), [], []⟩
def fn : List He.DefD := [d_is_number, d_is_within, d_sure_within, d_is_long, d_are_numbers, d_tupled, d_common_of, d_least_of, d_slim, d_times, d_is_fraction, d_primes_of, d_power_in, d_is_poly, d_sure_poly, d_bare, d_scaled_in, d_whole_row, d_value_in, d_roots_product, d_is_all_whole, d_chosen_in, d_chosen_poly, d_sure_rests, d_power_of, d_clash_in, d_reach_of, d_can_tell_rests, d_tells_rests, d_is_rests_poly, d_sure_whole, d_long_round, d_poly_rests, d__law_box, d__law_take, d__law_cells, d__law_of, d__law_same, d__law_gcd, d__law_slim, d__law_plus, d__law_times, d__law_thin, d__law_scale, d__law_mul, d__law_value, d__law_roots, d__law_chosen, d__law_few, d__law_due, d__law_right, d_law]
def fa : List He.Fa := [.glo "is_number", .glo "is_within", .glo "sure_within", .glo "is_long", .glo "are_numbers", .glo "tupled", .glo "common_of", .glo "least_of", .glo "slim", .glo "times", .glo "is_fraction", .glo "primes_of", .glo "power_in", .glo "is_poly", .glo "sure_poly", .glo "bare", .glo "scaled_in", .glo "whole_row", .glo "value_in", .glo "roots_product", .glo "is_all_whole", .glo "chosen_in", .glo "chosen_poly", .glo "sure_rests", .glo "power_of", .glo "clash_in", .glo "reach_of", .glo "can_tell_rests", .glo "tells_rests", .glo "is_rests_poly", .glo "sure_whole", .glo "long_round", .glo "poly_rests", .glo "_law_box", .glo "_law_take", .glo "_law_cells", .glo "_law_of", .glo "_law_same", .glo "_law_gcd", .glo "_law_slim", .glo "_law_plus", .glo "_law_times", .glo "_law_thin", .glo "_law_scale", .glo "_law_mul", .glo "_law_value", .glo "_law_roots", .glo "_law_chosen", .glo "_law_few", .glo "_law_due", .glo "_law_right", .glo "law", .free "len", .free "all", .free "any", .free "isinstance", .free "int", .free "bool", .free "tuple", .free "list", .free "range", .free "zip", .free "sorted", .free "set", .free "abs", .free "max", .free "min", .free "sum", .free "enumerate", .free "reversed", .free "dict", .free "str", .int "MOST_DEGREE" 40, .int "MOST_ENTRY" 1000000000000000000000000000000, .glo "NOUGHT", .int "MOST_RESTS" 60, .int "MOST_LONG" 60, .int "MOST_ROUND" 20000]
def tu : List (PySem.Str × List He.Dv) := [("NOUGHT", [.int 0, .int 1])]
abbrev c_is_number : Nat := 0
abbrev c_is_within : Nat := 1
abbrev c_sure_within : Nat := 2
abbrev c_is_long : Nat := 3
abbrev c_are_numbers : Nat := 4
abbrev c_tupled : Nat := 5
abbrev c_common_of : Nat := 6
abbrev c_least_of : Nat := 7
abbrev c_slim : Nat := 8
abbrev c_times : Nat := 9
abbrev c_is_fraction : Nat := 10
abbrev c_primes_of : Nat := 11
abbrev c_power_in : Nat := 12
abbrev c_is_poly : Nat := 13
abbrev c_sure_poly : Nat := 14
abbrev c_bare : Nat := 15
abbrev c_scaled_in : Nat := 16
abbrev c_whole_row : Nat := 17
abbrev c_value_in : Nat := 18
abbrev c_roots_product : Nat := 19
abbrev c_is_all_whole : Nat := 20
abbrev c_chosen_in : Nat := 21
abbrev c_chosen_poly : Nat := 22
abbrev c_sure_rests : Nat := 23
abbrev c_power_of : Nat := 24
abbrev c_clash_in : Nat := 25
abbrev c_reach_of : Nat := 26
abbrev c_can_tell_rests : Nat := 27
abbrev c_tells_rests : Nat := 28
abbrev c_is_rests_poly : Nat := 29
abbrev c_sure_whole : Nat := 30
abbrev c_long_round : Nat := 31
abbrev c_poly_rests : Nat := 32
abbrev c__law_box : Nat := 33
abbrev c__law_take : Nat := 34
abbrev c__law_cells : Nat := 35
abbrev c__law_of : Nat := 36
abbrev c__law_same : Nat := 37
abbrev c__law_gcd : Nat := 38
abbrev c__law_slim : Nat := 39
abbrev c__law_plus : Nat := 40
abbrev c__law_times : Nat := 41
abbrev c__law_thin : Nat := 42
abbrev c__law_scale : Nat := 43
abbrev c__law_mul : Nat := 44
abbrev c__law_value : Nat := 45
abbrev c__law_roots : Nat := 46
abbrev c__law_chosen : Nat := 47
abbrev c__law_few : Nat := 48
abbrev c__law_due : Nat := 49
abbrev c__law_right : Nat := 50
def nmOf (k : Nat) : PySem.Str := match k with
  | 0 => "is_number"
  | 1 => "is_within"
  | 2 => "sure_within"
  | 3 => "is_long"
  | 4 => "are_numbers"
  | 5 => "tupled"
  | 6 => "common_of"
  | 7 => "least_of"
  | 8 => "slim"
  | 9 => "times"
  | 10 => "is_fraction"
  | 11 => "primes_of"
  | 12 => "power_in"
  | 13 => "is_poly"
  | 14 => "sure_poly"
  | 15 => "bare"
  | 16 => "scaled_in"
  | 17 => "whole_row"
  | 18 => "value_in"
  | 19 => "roots_product"
  | 20 => "is_all_whole"
  | 21 => "chosen_in"
  | 22 => "chosen_poly"
  | 23 => "sure_rests"
  | 24 => "power_of"
  | 25 => "clash_in"
  | 26 => "reach_of"
  | 27 => "can_tell_rests"
  | 28 => "tells_rests"
  | 29 => "is_rests_poly"
  | 30 => "sure_whole"
  | 31 => "long_round"
  | 32 => "poly_rests"
  | 33 => "_law_box"
  | 34 => "_law_take"
  | 35 => "_law_cells"
  | 36 => "_law_of"
  | 37 => "_law_same"
  | 38 => "_law_gcd"
  | 39 => "_law_slim"
  | 40 => "_law_plus"
  | 41 => "_law_times"
  | 42 => "_law_thin"
  | 43 => "_law_scale"
  | 44 => "_law_mul"
  | 45 => "_law_value"
  | 46 => "_law_roots"
  | 47 => "_law_chosen"
  | 48 => "_law_few"
  | 49 => "_law_due"
  | 50 => "_law_right"
  | _ => ""
abbrev fA (K : PySem.W.Frag) : Nat → Addr := fun k => He.ga K (nmOf k)
section
variable {P : Program} {w : World} {K : PySem.W.Frag} {mg : PySem.Str → Option Value} {base : Heap} {k : Nat}
abbrev FO (P : Program) (w : World) (K : PySem.W.Frag) (mg : PySem.Str → Option Value) (base : Heap) (k : Nat) (d : PySem.Str) (ps : List PySem.Str) (g : List Val → M Val) : Prop := FnOk P w K mg base CX0 k (He.ga K d) (fdOf K (He.ga K d)) ps (spOf K (fA K) g)
/-! is_number -/
def e_is_number (Γ : Gam) : Nf.S := (sSeq (sRet (eAnd (eUn (uIsa .int) (eVar 0)) (eNot (eUn (uIsa .bool) (eVar 0))))) sNil)
theorem sc_is_number : FnScope ["thing"] ["thing"] (defScope (top 5)) := ⟨rfl, rfl, rfl, by decide +kernel, rfl, by decide +kernel, by decide +kernel⟩
theorem b_is_number {fd : FuncData} {ad : Addr} {kws : List (PySem.Str × V)} (F : FunD K "is_number" "is_number" (defArgs (top 5)) (defBody (top 5)) (defScope (top 5)) [] kws ad fd) : Binds K fd ["thing"] [] := F.bindsN fun _ _ _ _ _ _ us hl => match us, hl with | [_], _ => rfl
theorem f_is_number (c : Cn fa fn tu K mg) : FunD K "is_number" "is_number" (defArgs (top 5)) (defBody (top 5)) (defScope (top 5)) [] [] (He.ga K "is_number") (fdOf K (He.ga K "is_number")) := c.f 0 (d := d_is_number) rfl
theorem k_is_number (c : Cn fa fn tu K mg) (Γ : Gam) : FO P w K mg base (k + 1) "is_number" ["thing"] (runDef 1 1 (e_is_number Γ)) := by
  refine fok (N := ["thing"]) (fA K) (e_is_number Γ) (f_is_number c) sc_is_number (by decide) ?_
  intro cdv A outer s0 H E ta hr hf
  exact (xss_cons (xret (xand (xisaT .int rfl rfl (c.b 55 rfl) rfl (c.b 56 rfl) (xOE (xv 0 rfl (.inl rfl)))) (xoneN (xnot (xOE (xisaT .bool rfl rfl (c.b 55 rfl) rfl (c.b 57 rfl) (xOE (xv 0 rfl (.inl rfl))))))))) xss_nil)
/-! is_within -/
def e_is_within (Γ : Gam) : Nf.S := (sSeq (sRet (eAnd (eCall Γ c_is_number (aCons (eVar 0) aNil)) (eChain cLe cLe (eVar 1) (eVar 0) (eVar 2)))) sNil)
theorem sc_is_within : FnScope ["thing", "least", "most"] ["thing", "least", "most"] (defScope (top 6)) := ⟨rfl, rfl, rfl, by decide +kernel, rfl, by decide +kernel, by decide +kernel⟩
theorem b_is_within {fd : FuncData} {ad : Addr} {kws : List (PySem.Str × V)} (F : FunD K "is_within" "is_within" (defArgs (top 6)) (defBody (top 6)) (defScope (top 6)) [] kws ad fd) : Binds K fd ["thing", "least", "most"] [] := F.bindsN fun _ _ _ _ _ _ us hl => match us, hl with | [_, _, _], _ => rfl
theorem f_is_within (c : Cn fa fn tu K mg) : FunD K "is_within" "is_within" (defArgs (top 6)) (defBody (top 6)) (defScope (top 6)) [] [] (He.ga K "is_within") (fdOf K (He.ga K "is_within")) := c.f 1 (d := d_is_within) rfl
theorem k_is_within (c : Cn fa fn tu K mg) (Γ : Gam) (h_is_number : FO P w K mg base k "is_number" ["thing"] (Γ c_is_number)) : FO P w K mg base (k + 1) "is_within" ["thing", "least", "most"] (runDef 3 3 (e_is_within Γ)) := by
  refine fok (N := ["thing", "least", "most"]) (fA K) (e_is_within Γ) (f_is_within c) sc_is_within (by decide) ?_
  intro cdv A outer s0 H E ta hr hf
  exact (xss_cons (xret (xand (xcall Γ c_is_number h_is_number hr rfl (c.g 0 rfl) (f_is_number c).kp (b_is_number (f_is_number c)) (xa_cons (xv 0 rfl (.inl rfl)) xa_nil)) (xoneN (xchain os_le os_le (xOE (xv 1 rfl (.inl rfl))) (xOE (xv 0 rfl (.inl rfl))) (xOE (xv 2 rfl (.inl rfl))))))) xss_nil)
/-! sure_within -/
def e_sure_within (Γ : Gam) : Nf.S := (sSeq (sIf (Nf.tNot (tTru (eCall Γ c_is_within (aCons (eVar 0) (aCons (eVar 1) (aCons (eVar 2) aNil)))))) (sSeq sBad sNil) sNil) (sSeq (sRet (eVar 0)) sNil))
theorem sc_sure_within : FnScope ["thing", "least", "most"] ["thing", "least", "most"] (defScope (top 7)) := ⟨rfl, rfl, rfl, by decide +kernel, rfl, by decide +kernel, by decide +kernel⟩
theorem b_sure_within {fd : FuncData} {ad : Addr} {kws : List (PySem.Str × V)} (F : FunD K "sure_within" "sure_within" (defArgs (top 7)) (defBody (top 7)) (defScope (top 7)) [] kws ad fd) : Binds K fd ["thing", "least", "most"] [] := F.bindsN fun _ _ _ _ _ _ us hl => match us, hl with | [_, _, _], _ => rfl
theorem f_sure_within (c : Cn fa fn tu K mg) : FunD K "sure_within" "sure_within" (defArgs (top 7)) (defBody (top 7)) (defScope (top 7)) [] [] (He.ga K "sure_within") (fdOf K (He.ga K "sure_within")) := c.f 2 (d := d_sure_within) rfl
theorem k_sure_within (c : Cn fa fn tu K mg) (Γ : Gam) (h_is_within : FO P w K mg base k "is_within" ["thing", "least", "most"] (Γ c_is_within)) : FO P w K mg base (k + 1) "sure_within" ["thing", "least", "most"] (runDef 3 3 (e_sure_within Γ)) := by
  refine fok (N := ["thing", "least", "most"]) (fA K) (e_sure_within Γ) (f_sure_within c) sc_sure_within (by decide) ?_
  intro cdv A outer s0 H E ta hr hf
  exact (xss_cons (xif' (xt_not (xt_tru (xOE (xcall Γ c_is_within h_is_within hr rfl (c.g 1 rfl) (f_is_within c).kp (b_is_within (f_is_within c)) (xa_cons (xv 0 rfl (.inl rfl)) (xa_cons (xv 1 rfl (.inl rfl)) (xa_cons (xv 2 rfl (.inl rfl)) xa_nil))))))) (xss_cons xbad xss_nil) xss_nil) (xss_cons (xret (xv 0 rfl (.inl rfl))) xss_nil))
/-! is_long -/
def e_is_long (Γ : Gam) : Nf.S := (sSeq (sRet (eAnd (eUn (uIsa .tuple) (eVar 0)) (eOp cEq (eB bLen (aCons (eVar 0) aNil)) (eVar 1)))) sNil)
theorem sc_is_long : FnScope ["thing", "length"] ["thing", "length"] (defScope (top 8)) := ⟨rfl, rfl, rfl, by decide +kernel, rfl, by decide +kernel, by decide +kernel⟩
theorem b_is_long {fd : FuncData} {ad : Addr} {kws : List (PySem.Str × V)} (F : FunD K "is_long" "is_long" (defArgs (top 8)) (defBody (top 8)) (defScope (top 8)) [] kws ad fd) : Binds K fd ["thing", "length"] [] := F.bindsN fun _ _ _ _ _ _ us hl => match us, hl with | [_, _], _ => rfl
theorem f_is_long (c : Cn fa fn tu K mg) : FunD K "is_long" "is_long" (defArgs (top 8)) (defBody (top 8)) (defScope (top 8)) [] [] (He.ga K "is_long") (fdOf K (He.ga K "is_long")) := c.f 3 (d := d_is_long) rfl
theorem k_is_long (c : Cn fa fn tu K mg) (Γ : Gam) : FO P w K mg base (k + 1) "is_long" ["thing", "length"] (runDef 2 2 (e_is_long Γ)) := by
  refine fok (N := ["thing", "length"]) (fA K) (e_is_long Γ) (f_is_long c) sc_is_long (by decide) ?_
  intro cdv A outer s0 H E ta hr hf
  exact (xss_cons (xret (xand (xisaT .tuple rfl rfl (c.b 55 rfl) rfl (c.b 58 rfl) (xOE (xv 0 rfl (.inl rfl)))) (xoneN (xcmp os_eq (xOE (xbf RE.back cs_len rfl (c.b 52 rfl) (by decide +kernel) (xa_consO (xOE (xv 0 rfl (.inl rfl))) xa_nil))) (xOE (xv 1 rfl (.inl rfl))))))) xss_nil)
/-! are_numbers -/
def e_are_numbers (Γ : Gam) : Nf.S := (sSeq (sRet (eAnd (eUn (uIsa .tuple) (eVar 0)) (eB bAll (aCons (eComp (iSeq (eVar 0)) (Nf.gName 1) [1] Nf.tYes (eCall Γ c_is_number (aCons (eVar 1) aNil))) aNil)))) sNil)
theorem sc_are_numbers : FnScope ["thing", "own"] ["thing"] (defScope (top 9)) := ⟨rfl, rfl, rfl, by decide +kernel, rfl, by decide +kernel, by decide +kernel⟩
theorem b_are_numbers {fd : FuncData} {ad : Addr} {kws : List (PySem.Str × V)} (F : FunD K "are_numbers" "are_numbers" (defArgs (top 9)) (defBody (top 9)) (defScope (top 9)) [] kws ad fd) : Binds K fd ["thing"] [] := F.bindsN fun _ _ _ _ _ _ us hl => match us, hl with | [_], _ => rfl
theorem f_are_numbers (c : Cn fa fn tu K mg) : FunD K "are_numbers" "are_numbers" (defArgs (top 9)) (defBody (top 9)) (defScope (top 9)) [] [] (He.ga K "are_numbers") (fdOf K (He.ga K "are_numbers")) := c.f 4 (d := d_are_numbers) rfl
theorem k_are_numbers (c : Cn fa fn tu K mg) (Γ : Gam) (h_is_number : FO P w K mg base k "is_number" ["thing"] (Γ c_is_number)) : FO P w K mg base (k + 1) "are_numbers" ["thing"] (runDef 1 2 (e_are_numbers Γ)) := by
  refine fok (N := ["thing", "own"]) (fA K) (e_are_numbers Γ) (f_are_numbers c) sc_are_numbers (by decide) ?_
  intro cdv A outer s0 H E ta hr hf
  exact (xss_cons (xret (xand (xisaT .tuple rfl rfl (c.b 55 rfl) rfl (c.b 58 rfl) (xOE (xv 0 rfl (.inl rfl)))) (xoneN (xbf RE.back cs_all rfl (c.b 53 rfl) (by decide +kernel) (xa_consO (xOE (xEN (xcomp [1] sc_are_numbers.nd (xiG (xi_seq (xv 0 rfl (.inl rfl)))) (blkOk_by (own := [("own", 1)]) (by kernel_rfl)) rfl (fun _ _ _ _ _ => (xg_name 1 sc_are_numbers.nd rfl (.inl rfl))) (fun _ _ _ _ _ => xts_nil) (fun _ _ _ _ _ => (xcall Γ c_is_number h_is_number hr rfl (c.g 0 rfl) (f_is_number c).kp (b_is_number (f_is_number c)) (xa_cons (xv 1 rfl (.inl rfl)) xa_nil)))))) xa_nil))))) xss_nil)
/-! tupled -/
def e_tupled (Γ : Gam) : Nf.S := (sSeq (sRet (eIf (tTru (eUn (uIsa2 .list .tuple) (eVar 0))) (eB bTuple (aCons (eComp (iSeq (eVar 0)) (Nf.gName 1) [1] Nf.tYes (eCall Γ c_tupled (aCons (eVar 1) aNil))) aNil)) (eVar 0))) sNil)
theorem sc_tupled : FnScope ["value", "own"] ["value"] (defScope (top 10)) := ⟨rfl, rfl, rfl, by decide +kernel, rfl, by decide +kernel, by decide +kernel⟩
theorem b_tupled {fd : FuncData} {ad : Addr} {kws : List (PySem.Str × V)} (F : FunD K "tupled" "tupled" (defArgs (top 10)) (defBody (top 10)) (defScope (top 10)) [] kws ad fd) : Binds K fd ["value"] [] := F.bindsN fun _ _ _ _ _ _ us hl => match us, hl with | [_], _ => rfl
theorem f_tupled (c : Cn fa fn tu K mg) : FunD K "tupled" "tupled" (defArgs (top 10)) (defBody (top 10)) (defScope (top 10)) [] [] (He.ga K "tupled") (fdOf K (He.ga K "tupled")) := c.f 5 (d := d_tupled) rfl
theorem k_tupled (c : Cn fa fn tu K mg) (Γ : Gam) (h_tupled : FO P w K mg base k "tupled" ["value"] (Γ c_tupled)) : FO P w K mg base (k + 1) "tupled" ["value"] (runDef 1 2 (e_tupled Γ)) := by
  refine fok (N := ["value", "own"]) (fA K) (e_tupled Γ) (f_tupled c) sc_tupled (by decide) ?_
  intro cdv A outer s0 H E ta hr hf
  exact (xss_cons (xret (xif (xt_tru (xOE (xisa2T .list .tuple rfl rfl rfl (c.b 55 rfl) rfl (c.b 59 rfl) rfl (c.b 58 rfl) (xOE (xv 0 rfl (.inl rfl)))))) (xbt RE.back cs_tuple rfl (c.b 58 rfl) (by decide +kernel) (xa_consO (xOE (xEN (xcomp [1] sc_tupled.nd (xiG (xi_seq (xv 0 rfl (.inl rfl)))) (blkOk_by (own := [("own", 1)]) (by kernel_rfl)) rfl (fun _ _ _ _ _ => (xg_name 1 sc_tupled.nd rfl (.inl rfl))) (fun _ _ _ _ _ => xts_nil) (fun _ _ _ _ _ => (xcall Γ c_tupled h_tupled hr rfl (c.g 5 rfl) (f_tupled c).kp (b_tupled (f_tupled c)) (xa_cons (xv 1 rfl (.inl rfl)) xa_nil)))))) xa_nil)) (xv 0 rfl (.inl rfl)))) xss_nil)
/-! common_of -/
def e_common_of (Γ : Gam) : Nf.S := (sSeq (sWhile (tBl (eOp cNe (eVar 1) (eC (.int 0)))) (sSeq (sPar [(0, false), (1, false)] (aCons (eVar 1) (aCons (eOp oMod (eVar 0) (eVar 1)) aNil))) sNil)) (sSeq (sRet (eB bAbs (aCons (eVar 0) aNil))) sNil))
theorem sc_common_of : FnScope ["one", "other"] ["one", "other"] (defScope (top 11)) := ⟨rfl, rfl, rfl, by decide +kernel, rfl, by decide +kernel, by decide +kernel⟩
theorem b_common_of {fd : FuncData} {ad : Addr} {kws : List (PySem.Str × V)} (F : FunD K "common_of" "common_of" (defArgs (top 11)) (defBody (top 11)) (defScope (top 11)) [] kws ad fd) : Binds K fd ["one", "other"] [] := F.bindsN fun _ _ _ _ _ _ us hl => match us, hl with | [_, _], _ => rfl
theorem f_common_of (c : Cn fa fn tu K mg) : FunD K "common_of" "common_of" (defArgs (top 11)) (defBody (top 11)) (defScope (top 11)) [] [] (He.ga K "common_of") (fdOf K (He.ga K "common_of")) := c.f 6 (d := d_common_of) rfl
theorem k_common_of (c : Cn fa fn tu K mg) (Γ : Gam) : FO P w K mg base (k + 1) "common_of" ["one", "other"] (runDef 2 2 (e_common_of Γ)) := by
  refine fok (N := ["one", "other"]) (fA K) (e_common_of Γ) (f_common_of c) sc_common_of (by decide) ?_
  intro cdv A outer s0 H E ta hr hf
  exact (xss_cons (xwhile PassesOwn.never (xt_cmp os_ne (xOE (xv 1 rfl (.inl rfl))) (xOE (xi 0))) (xss_cons (xpar2 (b1 := false) (b2 := false) sc_common_of.nd (i := 0)  (j := 1) rfl rfl (by decide) rfl rfl (xm_e (xv 1 rfl (.inl rfl)) (xm_e (xopE os_mod (xOE (xv 0 rfl (.inl rfl))) (xOE (xv 1 rfl (.inl rfl)))) xm_nil)) rfl) xss_nil)) (xss_cons (xret (xbf RE.back cs_abs rfl (c.b 64 rfl) (by decide +kernel) (xa_consO (xOE (xv 0 rfl (.inl rfl))) xa_nil))) xss_nil))
/-! least_of -/
def e_least_of (Γ : Gam) : Nf.S := (sSeq (sRet (eOp oMul (eOp oDiv (eVar 0) (eCall Γ c_common_of (aCons (eVar 0) (aCons (eVar 1) aNil)))) (eVar 1))) sNil)
theorem sc_least_of : FnScope ["one", "other"] ["one", "other"] (defScope (top 12)) := ⟨rfl, rfl, rfl, by decide +kernel, rfl, by decide +kernel, by decide +kernel⟩
theorem b_least_of {fd : FuncData} {ad : Addr} {kws : List (PySem.Str × V)} (F : FunD K "least_of" "least_of" (defArgs (top 12)) (defBody (top 12)) (defScope (top 12)) [] kws ad fd) : Binds K fd ["one", "other"] [] := F.bindsN fun _ _ _ _ _ _ us hl => match us, hl with | [_, _], _ => rfl
theorem f_least_of (c : Cn fa fn tu K mg) : FunD K "least_of" "least_of" (defArgs (top 12)) (defBody (top 12)) (defScope (top 12)) [] [] (He.ga K "least_of") (fdOf K (He.ga K "least_of")) := c.f 7 (d := d_least_of) rfl
theorem k_least_of (c : Cn fa fn tu K mg) (Γ : Gam) (h_common_of : FO P w K mg base k "common_of" ["one", "other"] (Γ c_common_of)) : FO P w K mg base (k + 1) "least_of" ["one", "other"] (runDef 2 2 (e_least_of Γ)) := by
  refine fok (N := ["one", "other"]) (fA K) (e_least_of Γ) (f_least_of c) sc_least_of (by decide) ?_
  intro cdv A outer s0 H E ta hr hf
  exact (xss_cons (xret (xopE os_mul (xOE (xopE os_div (xOE (xv 0 rfl (.inl rfl))) (xOE (xcall Γ c_common_of h_common_of hr rfl (c.g 6 rfl) (f_common_of c).kp (b_common_of (f_common_of c)) (xa_cons (xv 0 rfl (.inl rfl)) (xa_cons (xv 1 rfl (.inl rfl)) xa_nil)))))) (xOE (xv 1 rfl (.inl rfl))))) xss_nil)
/-! slim -/
def e_slim (Γ : Gam) : Nf.S := (sSeq (sAsg (Nf.gName 2) (eIf (tBl (eOp cGt (eVar 1) (eC (.int 0)))) (eCall Γ c_common_of (aCons (eVar 0) (aCons (eVar 1) aNil))) (eUn uNeg (eCall Γ c_common_of (aCons (eVar 0) (aCons (eVar 1) aNil)))))) (sSeq (sRet (eTup (aCons (eOp oDiv (eVar 0) (eVar 2)) (aCons (eOp oDiv (eVar 1) (eVar 2)) aNil)))) sNil))
theorem sc_slim : FnScope ["over", "under", "common"] ["over", "under"] (defScope (top 13)) := ⟨rfl, rfl, rfl, by decide +kernel, rfl, by decide +kernel, by decide +kernel⟩
theorem b_slim {fd : FuncData} {ad : Addr} {kws : List (PySem.Str × V)} (F : FunD K "slim" "slim" (defArgs (top 13)) (defBody (top 13)) (defScope (top 13)) [] kws ad fd) : Binds K fd ["over", "under"] [] := F.bindsN fun _ _ _ _ _ _ us hl => match us, hl with | [_, _], _ => rfl
theorem f_slim (c : Cn fa fn tu K mg) : FunD K "slim" "slim" (defArgs (top 13)) (defBody (top 13)) (defScope (top 13)) [] [] (He.ga K "slim") (fdOf K (He.ga K "slim")) := c.f 8 (d := d_slim) rfl
theorem k_slim (c : Cn fa fn tu K mg) (Γ : Gam) (h_common_of : FO P w K mg base k "common_of" ["one", "other"] (Γ c_common_of)) : FO P w K mg base (k + 1) "slim" ["over", "under"] (runDef 2 3 (e_slim Γ)) := by
  refine fok (N := ["over", "under", "common"]) (fA K) (e_slim Γ) (f_slim c) sc_slim (by decide) ?_
  intro cdv A outer s0 H E ta hr hf
  exact (xss_cons (xset 2 sc_slim.nd rfl (.inl rfl) (xif (xt_cmp os_gt (xOE (xv 1 rfl (.inl rfl))) (xOE (xi 0))) (xcall Γ c_common_of h_common_of hr rfl (c.g 6 rfl) (f_common_of c).kp (b_common_of (f_common_of c)) (xa_cons (xv 0 rfl (.inl rfl)) (xa_cons (xv 1 rfl (.inl rfl)) xa_nil))) (xun us_neg (xOE (xcall Γ c_common_of h_common_of hr rfl (c.g 6 rfl) (f_common_of c).kp (b_common_of (f_common_of c)) (xa_cons (xv 0 rfl (.inl rfl)) (xa_cons (xv 1 rfl (.inl rfl)) xa_nil))))))) (xss_cons (xret (xtup (xa_cons (xopE os_div (xOE (xv 0 rfl (.inl rfl))) (xOE (xv 2 rfl (.inl rfl)))) (xa_cons (xopE os_div (xOE (xv 1 rfl (.inl rfl))) (xOE (xv 2 rfl (.inl rfl)))) xa_nil)))) xss_nil))
/-! times -/
def e_times (Γ : Gam) : Nf.S := (sSeq (sRet (eCall Γ c_slim (aCons (eOp oMul (eOp oIx (eVar 0) (eC (.int 0))) (eOp oIx (eVar 1) (eC (.int 0)))) (aCons (eOp oMul (eOp oIx (eVar 0) (eC (.int 1))) (eOp oIx (eVar 1) (eC (.int 1)))) aNil)))) sNil)
theorem sc_times : FnScope ["one", "other"] ["one", "other"] (defScope (top 14)) := ⟨rfl, rfl, rfl, by decide +kernel, rfl, by decide +kernel, by decide +kernel⟩
theorem b_times {fd : FuncData} {ad : Addr} {kws : List (PySem.Str × V)} (F : FunD K "times" "times" (defArgs (top 14)) (defBody (top 14)) (defScope (top 14)) [] kws ad fd) : Binds K fd ["one", "other"] [] := F.bindsN fun _ _ _ _ _ _ us hl => match us, hl with | [_, _], _ => rfl
theorem f_times (c : Cn fa fn tu K mg) : FunD K "times" "times" (defArgs (top 14)) (defBody (top 14)) (defScope (top 14)) [] [] (He.ga K "times") (fdOf K (He.ga K "times")) := c.f 9 (d := d_times) rfl
theorem k_times (c : Cn fa fn tu K mg) (Γ : Gam) (h_slim : FO P w K mg base k "slim" ["over", "under"] (Γ c_slim)) : FO P w K mg base (k + 1) "times" ["one", "other"] (runDef 2 2 (e_times Γ)) := by
  refine fok (N := ["one", "other"]) (fA K) (e_times Γ) (f_times c) sc_times (by decide) ?_
  intro cdv A outer s0 H E ta hr hf
  exact (xss_cons (xret (xcall Γ c_slim h_slim hr rfl (c.g 8 rfl) (f_slim c).kp (b_slim (f_slim c)) (xa_cons (xopE os_mul (xOE (xix (xOE (xv 0 rfl (.inl rfl))) (xOE (xi 0)))) (xOE (xix (xOE (xv 1 rfl (.inl rfl))) (xOE (xi 0))))) (xa_cons (xopE os_mul (xOE (xix (xOE (xv 0 rfl (.inl rfl))) (xOE (xi 1)))) (xOE (xix (xOE (xv 1 rfl (.inl rfl))) (xOE (xi 1))))) xa_nil)))) xss_nil)
/-! is_fraction -/
def e_is_fraction (Γ : Gam) : Nf.S := (sSeq (sRet (eAnd (eCall Γ c_is_long (aCons (eVar 0) (aCons (eC (.int 2)) aNil))) (eAnd (eCall Γ c_are_numbers (aCons (eVar 0) aNil)) (eAnd (eOp cGt (eOp oIx (eVar 0) (eC (.int 1))) (eC (.int 0))) (eOp cEq (eCall Γ c_common_of (aCons (eOp oIx (eVar 0) (eC (.int 0))) (aCons (eOp oIx (eVar 0) (eC (.int 1))) aNil))) (eC (.int 1))))))) sNil)
theorem sc_is_fraction : FnScope ["thing"] ["thing"] (defScope (top 15)) := ⟨rfl, rfl, rfl, by decide +kernel, rfl, by decide +kernel, by decide +kernel⟩
theorem b_is_fraction {fd : FuncData} {ad : Addr} {kws : List (PySem.Str × V)} (F : FunD K "is_fraction" "is_fraction" (defArgs (top 15)) (defBody (top 15)) (defScope (top 15)) [] kws ad fd) : Binds K fd ["thing"] [] := F.bindsN fun _ _ _ _ _ _ us hl => match us, hl with | [_], _ => rfl
theorem f_is_fraction (c : Cn fa fn tu K mg) : FunD K "is_fraction" "is_fraction" (defArgs (top 15)) (defBody (top 15)) (defScope (top 15)) [] [] (He.ga K "is_fraction") (fdOf K (He.ga K "is_fraction")) := c.f 10 (d := d_is_fraction) rfl
theorem k_is_fraction (c : Cn fa fn tu K mg) (Γ : Gam) (h_is_long : FO P w K mg base k "is_long" ["thing", "length"] (Γ c_is_long)) (h_are_numbers : FO P w K mg base k "are_numbers" ["thing"] (Γ c_are_numbers)) (h_common_of : FO P w K mg base k "common_of" ["one", "other"] (Γ c_common_of)) : FO P w K mg base (k + 1) "is_fraction" ["thing"] (runDef 1 1 (e_is_fraction Γ)) := by
  refine fok (N := ["thing"]) (fA K) (e_is_fraction Γ) (f_is_fraction c) sc_is_fraction (by decide) ?_
  intro cdv A outer s0 H E ta hr hf
  exact (xss_cons (xret (xand (xcall Γ c_is_long h_is_long hr rfl (c.g 3 rfl) (f_is_long c).kp (b_is_long (f_is_long c)) (xa_cons (xv 0 rfl (.inl rfl)) (xa_cons (xi 2) xa_nil))) (xand (xcall Γ c_are_numbers h_are_numbers hr rfl (c.g 4 rfl) (f_are_numbers c).kp (b_are_numbers (f_are_numbers c)) (xa_cons (xv 0 rfl (.inl rfl)) xa_nil)) (xand (xcmp os_gt (xOE (xix (xOE (xv 0 rfl (.inl rfl))) (xOE (xi 1)))) (xOE (xi 0))) (xoneN (xcmp os_eq (xOE (xcall Γ c_common_of h_common_of hr rfl (c.g 6 rfl) (f_common_of c).kp (b_common_of (f_common_of c)) (xa_cons (xix (xOE (xv 0 rfl (.inl rfl))) (xOE (xi 0))) (xa_cons (xix (xOE (xv 0 rfl (.inl rfl))) (xOE (xi 1))) xa_nil)))) (xOE (xi 1)))))))) xss_nil)
/-! primes_of -/
def e_primes_of (Γ : Gam) : Nf.S := (sSeq (sPar [(1, true), (2, false), (3, false)] (aCons (eLst aNil) (aCons (eB bAbs (aCons (eVar 0) aNil)) (aCons (eC (.int 2)) aNil)))) (sSeq (sWhile (tBl (eOp cLe (eOp oMul (eVar 3) (eVar 3)) (eVar 2))) (sSeq (sIf (tBl (eOp cEq (eOp oMod (eVar 2) (eVar 3)) (eC (.int 0)))) (sSeq (sApp 1 (eVar 3)) (sSeq (sWhile (tBl (eOp cEq (eOp oMod (eVar 2) (eVar 3)) (eC (.int 0)))) (sSeq (sAsg (Nf.gName 2) (eOp oDiv (eVar 2) (eVar 3))) sNil)) sNil)) sNil) (sSeq (sAsg (Nf.gName 3) (eOp oAdd (eVar 3) (eC (.int 1)))) sNil))) (sSeq (sRet (eOp oAdd (eVar 1) (eIf (tBl (eOp cGt (eVar 2) (eC (.int 1)))) (eLst (aCons (eVar 2) aNil)) (eLst aNil)))) sNil)))
theorem sc_primes_of : FnScope ["number", "found", "left", "own"] ["number"] (defScope (top 16)) := ⟨rfl, rfl, rfl, by decide +kernel, rfl, by decide +kernel, by decide +kernel⟩
theorem b_primes_of {fd : FuncData} {ad : Addr} {kws : List (PySem.Str × V)} (F : FunD K "primes_of" "primes_of" (defArgs (top 16)) (defBody (top 16)) (defScope (top 16)) [] kws ad fd) : Binds K fd ["number"] [] := F.bindsN fun _ _ _ _ _ _ us hl => match us, hl with | [_], _ => rfl
theorem f_primes_of (c : Cn fa fn tu K mg) : FunD K "primes_of" "primes_of" (defArgs (top 16)) (defBody (top 16)) (defScope (top 16)) [] [] (He.ga K "primes_of") (fdOf K (He.ga K "primes_of")) := c.f 11 (d := d_primes_of) rfl
theorem k_primes_of (c : Cn fa fn tu K mg) (Γ : Gam) : FO P w K mg base (k + 1) "primes_of" ["number"] (runDef 1 4 (e_primes_of Γ)) := by
  refine fok (N := ["number", "found", "left", "own"]) (fA K) (e_primes_of Γ) (f_primes_of c) sc_primes_of (by decide) ?_
  intro cdv A outer s0 H E ta hr hf
  exact (xss_cons (xpar3 (b1 := true) (b2 := false) (b3 := false) sc_primes_of.nd (i := 1)  (j := 2)  (l := 3) rfl rfl rfl (by decide) (by decide) (by decide) rfl rfl rfl (xm_n (xlst xa_nil) (xm_e (xbf RE.back cs_abs rfl (c.b 64 rfl) (by decide +kernel) (xa_consO (xOE (xv 0 rfl (.inl rfl))) xa_nil)) (xm_e (xi 2) xm_nil))) rfl) (xss_cons (xwhile PassesOwn.never (xt_cmp os_le (xOE (xopE os_mul (xOE (xv 3 rfl (.inl rfl))) (xOE (xv 3 rfl (.inl rfl))))) (xOE (xv 2 rfl (.inl rfl)))) (xss_cons (xif' (xt_cmp os_eq (xOE (xopE os_mod (xOE (xv 2 rfl (.inl rfl))) (xOE (xv 3 rfl (.inl rfl))))) (xOE (xi 0))) (xss_cons (xappend 1 rfl (.inl rfl) (xv 3 rfl (.inl rfl))) (xss_cons (xwhile PassesOwn.never (xt_cmp os_eq (xOE (xopE os_mod (xOE (xv 2 rfl (.inl rfl))) (xOE (xv 3 rfl (.inl rfl))))) (xOE (xi 0))) (xss_cons (xset 2 sc_primes_of.nd rfl (.inl rfl) (xopE os_div (xOE (xv 2 rfl (.inl rfl))) (xOE (xv 3 rfl (.inl rfl))))) xss_nil)) xss_nil)) xss_nil) (xss_cons (xset 3 sc_primes_of.nd rfl (.inl rfl) (xopE os_add (xOE (xv 3 rfl (.inl rfl))) (xOE (xi 1)))) xss_nil))) (xss_cons (xret (xopE os_add (xOE (xv 1 rfl (.inl rfl))) (xOE (xif (xt_cmp os_gt (xOE (xv 2 rfl (.inl rfl))) (xOE (xi 1))) (xEN (xlst (xa_cons (xv 2 rfl (.inl rfl)) xa_nil))) (xEN (xlst xa_nil)))))) xss_nil)))
/-! power_in -/
def e_power_in (Γ : Gam) : Nf.S := (sSeq (sAsg (Nf.gName 2) (eC (.int 0))) (sSeq (sWhile (tBl (eOp cEq (eOp oMod (eVar 0) (eVar 1)) (eC (.int 0)))) (sSeq (sPar [(0, false), (2, false)] (aCons (eOp oDiv (eVar 0) (eVar 1)) (aCons (eOp oAdd (eVar 2) (eC (.int 1))) aNil))) sNil)) (sSeq (sRet (eVar 2)) sNil)))
theorem sc_power_in : FnScope ["number", "prime", "found"] ["number", "prime"] (defScope (top 17)) := ⟨rfl, rfl, rfl, by decide +kernel, rfl, by decide +kernel, by decide +kernel⟩
theorem b_power_in {fd : FuncData} {ad : Addr} {kws : List (PySem.Str × V)} (F : FunD K "power_in" "power_in" (defArgs (top 17)) (defBody (top 17)) (defScope (top 17)) [] kws ad fd) : Binds K fd ["number", "prime"] [] := F.bindsN fun _ _ _ _ _ _ us hl => match us, hl with | [_, _], _ => rfl
theorem f_power_in (c : Cn fa fn tu K mg) : FunD K "power_in" "power_in" (defArgs (top 17)) (defBody (top 17)) (defScope (top 17)) [] [] (He.ga K "power_in") (fdOf K (He.ga K "power_in")) := c.f 12 (d := d_power_in) rfl
theorem k_power_in (c : Cn fa fn tu K mg) (Γ : Gam) : FO P w K mg base (k + 1) "power_in" ["number", "prime"] (runDef 2 3 (e_power_in Γ)) := by
  refine fok (N := ["number", "prime", "found"]) (fA K) (e_power_in Γ) (f_power_in c) sc_power_in (by decide) ?_
  intro cdv A outer s0 H E ta hr hf
  exact (xss_cons (xset 2 sc_power_in.nd rfl (.inl rfl) (xi 0)) (xss_cons (xwhile PassesOwn.never (xt_cmp os_eq (xOE (xopE os_mod (xOE (xv 0 rfl (.inl rfl))) (xOE (xv 1 rfl (.inl rfl))))) (xOE (xi 0))) (xss_cons (xpar2 (b1 := false) (b2 := false) sc_power_in.nd (i := 0)  (j := 2) rfl rfl (by decide) rfl rfl (xm_e (xopE os_div (xOE (xv 0 rfl (.inl rfl))) (xOE (xv 1 rfl (.inl rfl)))) (xm_e (xopE os_add (xOE (xv 2 rfl (.inl rfl))) (xOE (xi 1))) xm_nil)) rfl) xss_nil)) (xss_cons (xret (xv 2 rfl (.inl rfl))) xss_nil)))
/-! is_poly -/
def e_is_poly (Γ : Gam) : Nf.S := (sSeq (sIf (Nf.tOr (Nf.tNot (tTru (eUn (uIsa .tuple) (eVar 0)))) (Nf.tNot (tTru (eB bAll (aCons (eComp (iSeq (eVar 0)) (Nf.gName 1) [1] Nf.tYes (eCall Γ c_is_fraction (aCons (eVar 1) aNil))) aNil))))) (sSeq (sRet (eC (.bl false))) sNil) sNil) (sSeq (sRet (eOr (eOp cEq (eVar 0) (eTup aNil)) (eOp cNe (eOp oIx (eVar 0) (eUn uNeg (eC (.int 1)))) (eC (.tup [.int 0, .int 1]))))) sNil))
theorem sc_is_poly : FnScope ["thing", "own"] ["thing"] (defScope (top 22)) := ⟨rfl, rfl, rfl, by decide +kernel, rfl, by decide +kernel, by decide +kernel⟩
theorem b_is_poly {fd : FuncData} {ad : Addr} {kws : List (PySem.Str × V)} (F : FunD K "is_poly" "is_poly" (defArgs (top 22)) (defBody (top 22)) (defScope (top 22)) [] kws ad fd) : Binds K fd ["thing"] [] := F.bindsN fun _ _ _ _ _ _ us hl => match us, hl with | [_], _ => rfl
theorem f_is_poly (c : Cn fa fn tu K mg) : FunD K "is_poly" "is_poly" (defArgs (top 22)) (defBody (top 22)) (defScope (top 22)) [] [] (He.ga K "is_poly") (fdOf K (He.ga K "is_poly")) := c.f 13 (d := d_is_poly) rfl
theorem k_is_poly (c : Cn fa fn tu K mg) (Γ : Gam) (h_is_fraction : FO P w K mg base k "is_fraction" ["thing"] (Γ c_is_fraction)) : FO P w K mg base (k + 1) "is_poly" ["thing"] (runDef 1 2 (e_is_poly Γ)) := by
  refine fok (N := ["thing", "own"]) (fA K) (e_is_poly Γ) (f_is_poly c) sc_is_poly (by decide) ?_
  intro cdv A outer s0 H E ta hr hf
  exact (xss_cons (xif' (PW.pt (xw_or (xt_not (xt_tru (xOE (xisaT .tuple rfl rfl (c.b 55 rfl) rfl (c.b 58 rfl) (xOE (xv 0 rfl (.inl rfl))))))) (xw_or1 (xt_not (xt_tru (xOE (xbf RE.back cs_all rfl (c.b 53 rfl) (by decide +kernel) (xa_consO (xOE (xEN (xcomp [1] sc_is_poly.nd (xiG (xi_seq (xv 0 rfl (.inl rfl)))) (blkOk_by (own := [("own", 1)]) (by kernel_rfl)) rfl (fun _ _ _ _ _ => (xg_name 1 sc_is_poly.nd rfl (.inl rfl))) (fun _ _ _ _ _ => xts_nil) (fun _ _ _ _ _ => (xcall Γ c_is_fraction h_is_fraction hr rfl (c.g 10 rfl) (f_is_fraction c).kp (b_is_fraction (f_is_fraction c)) (xa_cons (xv 1 rfl (.inl rfl)) xa_nil)))))) xa_nil)))))))) (xss_cons (xret (xb false)) xss_nil) xss_nil) (xss_cons (xret (xor (xcmp os_eq (xOE (xv 0 rfl (.inl rfl))) (xOE (xtup xa_nil))) (xoneN (xcmp os_ne (xOE (xix (xOE (xv 0 rfl (.inl rfl))) (xOE (xun us_neg (xOE (xi 1)))))) (xOE (xgt (ns := [0, 1]) c 74 0 rfl rfl rfl rfl rfl)))))) xss_nil))
/-! sure_poly -/
def e_sure_poly (Γ : Gam) : Nf.S := (sSeq (sAsg (Nf.gName 1) (eCall Γ c_tupled (aCons (eVar 0) aNil))) (sSeq (sIf (Nf.tOr (Nf.tNot (tTru (eCall Γ c_is_poly (aCons (eVar 1) aNil)))) (tBl (eOp cGt (eB bLen (aCons (eVar 1) aNil)) (eOp oAdd (eC (.int 40)) (eC (.int 1)))))) (sSeq sBad sNil) sNil) (sSeq (sIf (tTru (eB bAny (aCons (eComp (iSeq (eVar 1)) (Nf.gName 2) [2] Nf.tYes (eOr (eOp cGt (eB bAbs (aCons (eOp oIx (eVar 2) (eC (.int 0))) aNil)) (eC (.int 1000000000000000000000000000000))) (eOp cGt (eOp oIx (eVar 2) (eC (.int 1))) (eC (.int 1000000000000000000000000000000))))) aNil))) (sSeq sBad sNil) sNil) (sSeq (sRet (eVar 1)) sNil))))
theorem sc_sure_poly : FnScope ["value", "own", "its"] ["value"] (defScope (top 23)) := ⟨rfl, rfl, rfl, by decide +kernel, rfl, by decide +kernel, by decide +kernel⟩
theorem b_sure_poly {fd : FuncData} {ad : Addr} {kws : List (PySem.Str × V)} (F : FunD K "sure_poly" "sure_poly" (defArgs (top 23)) (defBody (top 23)) (defScope (top 23)) [] kws ad fd) : Binds K fd ["value"] [] := F.bindsN fun _ _ _ _ _ _ us hl => match us, hl with | [_], _ => rfl
theorem f_sure_poly (c : Cn fa fn tu K mg) : FunD K "sure_poly" "sure_poly" (defArgs (top 23)) (defBody (top 23)) (defScope (top 23)) [] [] (He.ga K "sure_poly") (fdOf K (He.ga K "sure_poly")) := c.f 14 (d := d_sure_poly) rfl
theorem k_sure_poly (c : Cn fa fn tu K mg) (Γ : Gam) (h_tupled : FO P w K mg base k "tupled" ["value"] (Γ c_tupled)) (h_is_poly : FO P w K mg base k "is_poly" ["thing"] (Γ c_is_poly)) : FO P w K mg base (k + 1) "sure_poly" ["value"] (runDef 1 3 (e_sure_poly Γ)) := by
  refine fok (N := ["value", "own", "its"]) (fA K) (e_sure_poly Γ) (f_sure_poly c) sc_sure_poly (by decide) ?_
  intro cdv A outer s0 H E ta hr hf
  exact (xss_cons (xset 1 sc_sure_poly.nd rfl (.inl rfl) (xcall Γ c_tupled h_tupled hr rfl (c.g 5 rfl) (f_tupled c).kp (b_tupled (f_tupled c)) (xa_cons (xv 0 rfl (.inl rfl)) xa_nil))) (xss_cons (xif' (PW.pt (xw_or (xt_not (xt_tru (xOE (xcall Γ c_is_poly h_is_poly hr rfl (c.g 13 rfl) (f_is_poly c).kp (b_is_poly (f_is_poly c)) (xa_cons (xv 1 rfl (.inl rfl)) xa_nil))))) (xw_or1 (xt_cmp os_gt (xOE (xbf RE.back cs_len rfl (c.b 52 rfl) (by decide +kernel) (xa_consO (xOE (xv 1 rfl (.inl rfl))) xa_nil))) (xOE (xopE os_add (xOE (xgi c 72 rfl rfl rfl)) (xOE (xi 1)))))))) (xss_cons xbad xss_nil) xss_nil) (xss_cons (xif' (xt_tru (xOE (xbf RE.back cs_any rfl (c.b 54 rfl) (by decide +kernel) (xa_consO (xOE (xEN (xcomp [2] sc_sure_poly.nd (xiG (xi_seq (xv 1 rfl (.inl rfl)))) (blkOk_by (own := [("its", 2)]) (by kernel_rfl)) rfl (fun _ _ _ _ _ => (xg_name 2 sc_sure_poly.nd rfl (.inl rfl))) (fun _ _ _ _ _ => xts_nil) (fun _ _ _ _ _ => (xor (xcmp os_gt (xOE (xbf RE.back cs_abs rfl (c.b 64 rfl) (by decide +kernel) (xa_consO (xOE (xix (xOE (xv 2 rfl (.inl rfl))) (xOE (xi 0)))) xa_nil))) (xOE (xgi c 73 rfl rfl rfl))) (xoneN (xcmp os_gt (xOE (xix (xOE (xv 2 rfl (.inl rfl))) (xOE (xi 1)))) (xOE (xgi c 73 rfl rfl rfl))))))))) xa_nil)))) (xss_cons xbad xss_nil) xss_nil) (xss_cons (xret (xv 1 rfl (.inl rfl))) xss_nil))))
/-! bare -/
def e_bare (Γ : Gam) : Nf.S := (sSeq (sAsgO 1 (eB bList (aCons (eVar 0) aNil))) (sSeq (sWhile (Nf.tAnd (tBl (eOp cNe (eOwn 1) (eLst aNil))) (tBl (eOp cEq (eOp oIx (eOwn 1) (eUn uNeg (eC (.int 1)))) (eC (.tup [.int 0, .int 1]))))) (sSeq (sPop 1) sNil)) (sSeq (sRet (eB bTuple (aCons (eVar 1) aNil))) sNil)))
theorem sc_bare : FnScope ["row", "found"] ["row"] (defScope (top 24)) := ⟨rfl, rfl, rfl, by decide +kernel, rfl, by decide +kernel, by decide +kernel⟩
theorem b_bare {fd : FuncData} {ad : Addr} {kws : List (PySem.Str × V)} (F : FunD K "bare" "bare" (defArgs (top 24)) (defBody (top 24)) (defScope (top 24)) [] kws ad fd) : Binds K fd ["row"] [] := F.bindsN fun _ _ _ _ _ _ us hl => match us, hl with | [_], _ => rfl
theorem f_bare (c : Cn fa fn tu K mg) : FunD K "bare" "bare" (defArgs (top 24)) (defBody (top 24)) (defScope (top 24)) [] [] (He.ga K "bare") (fdOf K (He.ga K "bare")) := c.f 15 (d := d_bare) rfl
theorem k_bare (c : Cn fa fn tu K mg) (Γ : Gam) : FO P w K mg base (k + 1) "bare" ["row"] (runDef 1 2 (e_bare Γ)) := by
  refine fok (N := ["row", "found"]) (fA K) (e_bare Γ) (f_bare c) sc_bare (by decide) ?_
  intro cdv A outer s0 H E ta hr hf
  exact (xss_cons (xsetO 1 sc_bare.nd rfl (.inl rfl) (xbt RN.back cs_list rfl (c.b 59 rfl) (by decide +kernel) (xa_consO (xOE (xv 0 rfl (.inl rfl))) xa_nil))) (xss_cons (xwhile PassesOwn.never (PW.pt (xw_and (xt_cmp os_ne (xo 1 rfl (.inl rfl)) (xOE (xEN (xlst xa_nil)))) (xw_and1 (xt_cmp os_eq (xOE (xix (xo 1 rfl (.inl rfl)) (xOE (xun us_neg (xOE (xi 1)))))) (xOE (xgt (ns := [0, 1]) c 74 0 rfl rfl rfl rfl rfl)))))) (xss_cons (xpop 1 rfl (.inl rfl)) xss_nil)) (xss_cons (xret (xbt RE.back cs_tuple rfl (c.b 58 rfl) (by decide +kernel) (xa_consO (xOE (xv 1 rfl (.inl rfl))) xa_nil))) xss_nil)))
/-! scaled_in -/
def e_scaled_in (Γ : Gam) : Nf.S := (sSeq (sRet (eCall Γ c_bare (aCons (eComp (iSeq (eVar 0)) (Nf.gName 2) [2] Nf.tYes (eCall Γ c_times (aCons (eVar 2) (aCons (eVar 1) aNil)))) aNil))) sNil)
theorem sc_scaled_in : FnScope ["poly", "by", "own"] ["poly", "by"] (defScope (top 25)) := ⟨rfl, rfl, rfl, by decide +kernel, rfl, by decide +kernel, by decide +kernel⟩
theorem b_scaled_in {fd : FuncData} {ad : Addr} {kws : List (PySem.Str × V)} (F : FunD K "scaled_in" "scaled_in" (defArgs (top 25)) (defBody (top 25)) (defScope (top 25)) [] kws ad fd) : Binds K fd ["poly", "by"] [] := F.bindsN fun _ _ _ _ _ _ us hl => match us, hl with | [_, _], _ => rfl
theorem f_scaled_in (c : Cn fa fn tu K mg) : FunD K "scaled_in" "scaled_in" (defArgs (top 25)) (defBody (top 25)) (defScope (top 25)) [] [] (He.ga K "scaled_in") (fdOf K (He.ga K "scaled_in")) := c.f 16 (d := d_scaled_in) rfl
theorem k_scaled_in (c : Cn fa fn tu K mg) (Γ : Gam) (h_bare : FO P w K mg base k "bare" ["row"] (Γ c_bare)) (h_times : FO P w K mg base k "times" ["one", "other"] (Γ c_times)) : FO P w K mg base (k + 1) "scaled_in" ["poly", "by"] (runDef 2 3 (e_scaled_in Γ)) := by
  refine fok (N := ["poly", "by", "own"]) (fA K) (e_scaled_in Γ) (f_scaled_in c) sc_scaled_in (by decide) ?_
  intro cdv A outer s0 H E ta hr hf
  exact (xss_cons (xret (xcall Γ c_bare h_bare hr rfl (c.g 15 rfl) (f_bare c).kp (b_bare (f_bare c)) (xa_cons (xEN (xcomp [2] sc_scaled_in.nd (xiG (xi_seq (xv 0 rfl (.inl rfl)))) (blkOk_by (own := [("own", 2)]) (by kernel_rfl)) rfl (fun _ _ _ _ _ => (xg_name 2 sc_scaled_in.nd rfl (.inl rfl))) (fun _ _ _ _ _ => xts_nil) (fun _ _ _ _ _ => (xcall Γ c_times h_times hr rfl (c.g 9 rfl) (f_times c).kp (b_times (f_times c)) (xa_cons (xv 2 rfl (.inl rfl)) (xa_cons (xv 1 rfl (.inr (.inl rfl))) xa_nil)))))) xa_nil))) xss_nil)
/-! whole_row -/
def e_whole_row (Γ : Gam) : Nf.S := (sSeq (sAsg (Nf.gName 1) (eC (.int 1))) (sSeq (sFor (iSeq (eVar 0)) (Nf.gName 2) (sSeq (sAsg (Nf.gName 1) (eCall Γ c_least_of (aCons (eVar 1) (aCons (eOp oIx (eVar 2) (eC (.int 1))) aNil)))) sNil)) (sSeq (sRet (eTup (aCons (eVar 1) (aCons (eComp (iSeq (eVar 0)) (Nf.gName 2) [2] Nf.tYes (eOp oMul (eOp oIx (eVar 2) (eC (.int 0))) (eOp oDiv (eVar 1) (eOp oIx (eVar 2) (eC (.int 1)))))) aNil)))) sNil)))
theorem sc_whole_row : FnScope ["poly", "under", "own"] ["poly"] (defScope (top 26)) := ⟨rfl, rfl, rfl, by decide +kernel, rfl, by decide +kernel, by decide +kernel⟩
theorem b_whole_row {fd : FuncData} {ad : Addr} {kws : List (PySem.Str × V)} (F : FunD K "whole_row" "whole_row" (defArgs (top 26)) (defBody (top 26)) (defScope (top 26)) [] kws ad fd) : Binds K fd ["poly"] [] := F.bindsN fun _ _ _ _ _ _ us hl => match us, hl with | [_], _ => rfl
theorem f_whole_row (c : Cn fa fn tu K mg) : FunD K "whole_row" "whole_row" (defArgs (top 26)) (defBody (top 26)) (defScope (top 26)) [] [] (He.ga K "whole_row") (fdOf K (He.ga K "whole_row")) := c.f 17 (d := d_whole_row) rfl
theorem k_whole_row (c : Cn fa fn tu K mg) (Γ : Gam) (h_least_of : FO P w K mg base k "least_of" ["one", "other"] (Γ c_least_of)) : FO P w K mg base (k + 1) "whole_row" ["poly"] (runDef 1 3 (e_whole_row Γ)) := by
  refine fok (N := ["poly", "under", "own"]) (fA K) (e_whole_row Γ) (f_whole_row c) sc_whole_row (by decide) ?_
  intro cdv A outer s0 H E ta hr hf
  exact (xss_cons (xset 1 sc_whole_row.nd rfl (.inr rfl) (xi 1)) (xss_cons (xfor PassesOwn.never (xi_seq (xv 0 rfl (.inl rfl))) (xg_name 2 sc_whole_row.nd rfl (.inl rfl)) (xss_cons (xset 1 sc_whole_row.nd rfl (.inr rfl) (xcall Γ c_least_of h_least_of hr rfl (c.g 7 rfl) (f_least_of c).kp (b_least_of (f_least_of c)) (xa_cons (xv 1 rfl (.inr (.inl rfl))) (xa_cons (xix (xOE (xv 2 rfl (.inl rfl))) (xOE (xi 1))) xa_nil)))) xss_nil)) (xss_cons (xret (xtup (xa_cons (xv 1 rfl (.inr (.inl rfl))) (xa_cons (xEN (xcomp [2] sc_whole_row.nd (xiG (xi_seq (xv 0 rfl (.inl rfl)))) (blkOk_by (own := [("own", 2)]) (by kernel_rfl)) rfl (fun _ _ _ _ _ => (xg_name 2 sc_whole_row.nd rfl (.inl rfl))) (fun _ _ _ _ _ => xts_nil) (fun _ _ _ _ _ => (xopE os_mul (xOE (xix (xOE (xv 2 rfl (.inl rfl))) (xOE (xi 0)))) (xOE (xopE os_div (xOE (xv 1 rfl (.inr (.inl rfl)))) (xOE (xix (xOE (xv 2 rfl (.inl rfl))) (xOE (xi 1)))))))))) xa_nil)))) xss_nil)))
/-! value_in -/
def e_value_in (Γ : Gam) : Nf.S := (sSeq (sAsg (Nf.gTup [(Nf.gName 2), (Nf.gName 3)]) (eCall Γ c_whole_row (aCons (eVar 0) aNil))) (sSeq (sAsg (Nf.gName 4) (eC (.int 0))) (sSeq (sFor (iRev (eVar 3)) (Nf.gName 5) (sSeq (sAsg (Nf.gName 4) (eOp oAdd (eOp oMul (eVar 4) (eVar 1)) (eVar 5))) sNil)) (sSeq (sRet (eCall Γ c_slim (aCons (eVar 4) (aCons (eVar 2) aNil)))) sNil))))
theorem sc_value_in : FnScope ["poly", "number", "under", "row", "found", "own"] ["poly", "number"] (defScope (top 27)) := ⟨rfl, rfl, rfl, by decide +kernel, rfl, by decide +kernel, by decide +kernel⟩
theorem b_value_in {fd : FuncData} {ad : Addr} {kws : List (PySem.Str × V)} (F : FunD K "value_in" "value_in" (defArgs (top 27)) (defBody (top 27)) (defScope (top 27)) [] kws ad fd) : Binds K fd ["poly", "number"] [] := F.bindsN fun _ _ _ _ _ _ us hl => match us, hl with | [_, _], _ => rfl
theorem f_value_in (c : Cn fa fn tu K mg) : FunD K "value_in" "value_in" (defArgs (top 27)) (defBody (top 27)) (defScope (top 27)) [] [] (He.ga K "value_in") (fdOf K (He.ga K "value_in")) := c.f 18 (d := d_value_in) rfl
theorem k_value_in (c : Cn fa fn tu K mg) (Γ : Gam) (h_whole_row : FO P w K mg base k "whole_row" ["poly"] (Γ c_whole_row)) (h_slim : FO P w K mg base k "slim" ["over", "under"] (Γ c_slim)) : FO P w K mg base (k + 1) "value_in" ["poly", "number"] (runDef 2 6 (e_value_in Γ)) := by
  refine fok (N := ["poly", "number", "under", "row", "found", "own"]) (fA K) (e_value_in Γ) (f_value_in c) sc_value_in (by decide) ?_
  intro cdv A outer s0 H E ta hr hf
  exact (xss_cons (xasg (xcall Γ c_whole_row h_whole_row hr rfl (c.g 17 rfl) (f_whole_row c).kp (b_whole_row (f_whole_row c)) (xa_cons (xv 0 rfl (.inl rfl)) xa_nil)) (xg_tup (xgs_cons (xg_name 2 sc_value_in.nd rfl (.inl rfl)) (xgs_cons (xg_name 3 sc_value_in.nd rfl (.inl rfl)) xgs_nil)))) (xss_cons (xset 4 sc_value_in.nd rfl (.inl rfl) (xi 0)) (xss_cons (xfor PassesOwn.never (xi_rev rfl (c.b 69 rfl) (xv 3 rfl (.inl rfl))) (xg_name 5 sc_value_in.nd rfl (.inl rfl)) (xss_cons (xset 4 sc_value_in.nd rfl (.inl rfl) (xopE os_add (xOE (xopE os_mul (xOE (xv 4 rfl (.inl rfl))) (xOE (xv 1 rfl (.inl rfl))))) (xOE (xv 5 rfl (.inl rfl))))) xss_nil)) (xss_cons (xret (xcall Γ c_slim h_slim hr rfl (c.g 8 rfl) (f_slim c).kp (b_slim (f_slim c)) (xa_cons (xv 4 rfl (.inl rfl)) (xa_cons (xv 2 rfl (.inl rfl)) xa_nil)))) xss_nil))))
/-! roots_product -/
def e_roots_product (Γ : Gam) : Nf.S := (sSeq (sAsgO 1 (eLst (aCons (eC (.int 1)) aNil))) (sSeq (sFor (iSeq (eVar 0)) (Nf.gName 2) (sSeq (sAsgO 1 (eOp oAddL (eLst (aCons (eC (.int 0)) aNil)) (eOwn 1))) (sSeq (sFor (iRange1 (aCons (eOp oSub (eB bLen (aCons (eOwn 1) aNil)) (eC (.int 1))) aNil)) (Nf.gName 3) (sSeq (sSet 1 (eVar 3) (eOp oSub (eOp oIx (eOwn 1) (eVar 3)) (eOp oMul (eVar 2) (eOp oIx (eOwn 1) (eOp oAdd (eVar 3) (eC (.int 1))))))) sNil)) sNil))) (sSeq (sRet (eB bTuple (aCons (eComp (iSeq (eVar 1)) (Nf.gName 4) [4] Nf.tYes (eTup (aCons (eVar 4) (aCons (eC (.int 1)) aNil)))) aNil))) sNil)))
theorem sc_roots_product : FnScope ["numbers", "row", "number", "place", "own"] ["numbers"] (defScope (top 28)) := ⟨rfl, rfl, rfl, by decide +kernel, rfl, by decide +kernel, by decide +kernel⟩
theorem b_roots_product {fd : FuncData} {ad : Addr} {kws : List (PySem.Str × V)} (F : FunD K "roots_product" "roots_product" (defArgs (top 28)) (defBody (top 28)) (defScope (top 28)) [] kws ad fd) : Binds K fd ["numbers"] [] := F.bindsN fun _ _ _ _ _ _ us hl => match us, hl with | [_], _ => rfl
theorem f_roots_product (c : Cn fa fn tu K mg) : FunD K "roots_product" "roots_product" (defArgs (top 28)) (defBody (top 28)) (defScope (top 28)) [] [] (He.ga K "roots_product") (fdOf K (He.ga K "roots_product")) := c.f 19 (d := d_roots_product) rfl
theorem k_roots_product (c : Cn fa fn tu K mg) (Γ : Gam) : FO P w K mg base (k + 1) "roots_product" ["numbers"] (runDef 1 5 (e_roots_product Γ)) := by
  refine fok (N := ["numbers", "row", "number", "place", "own"]) (fA K) (e_roots_product Γ) (f_roots_product c) sc_roots_product (by decide) ?_
  intro cdv A outer s0 H E ta hr hf
  exact (xss_cons (xsetO 1 sc_roots_product.nd rfl (.inl rfl) (xlst (xa_cons (xi 1) xa_nil))) (xss_cons (xfor PassesOwn.never (xi_seq (xv 0 rfl (.inl rfl))) (xg_name 2 sc_roots_product.nd rfl (.inl rfl)) (xss_cons (xsetO 1 sc_roots_product.nd rfl (.inl rfl) (xopN os_addL (xOE (xEN (xlst (xa_cons (xi 0) xa_nil)))) (xo 1 rfl (.inl rfl)))) (xss_cons (xfor PassesOwn.never (xi_range1 rfl (c.b 60 rfl) (xa_consO (xOE (xopE os_sub (xOE (xbf RE.back cs_len rfl (c.b 52 rfl) (by decide +kernel) (xa_consO (xo 1 rfl (.inl rfl)) xa_nil))) (xOE (xi 1)))) xa_nil)) (xg_name 3 sc_roots_product.nd rfl (.inl rfl)) (xss_cons (xsetIx 1 (xopE os_sub (xOE (xix (xo 1 rfl (.inl rfl)) (xOE (xv 3 rfl (.inl rfl))))) (xOE (xopE os_mul (xOE (xv 2 rfl (.inl rfl))) (xOE (xix (xo 1 rfl (.inl rfl)) (xOE (xopE os_add (xOE (xv 3 rfl (.inl rfl))) (xOE (xi 1))))))))) (xOE (xv 3 rfl (.inl rfl))) rfl (.inl rfl)) xss_nil)) xss_nil))) (xss_cons (xret (xbt RE.back cs_tuple rfl (c.b 58 rfl) (by decide +kernel) (xa_consO (xOE (xEN (xcomp [4] sc_roots_product.nd (xiG (xi_seq (xv 1 rfl (.inl rfl)))) (blkOk_by (own := [("own", 4)]) (by kernel_rfl)) rfl (fun _ _ _ _ _ => (xg_name 4 sc_roots_product.nd rfl (.inl rfl))) (fun _ _ _ _ _ => xts_nil) (fun _ _ _ _ _ => (xtup (xa_cons (xv 4 rfl (.inl rfl)) (xa_cons (xi 1) xa_nil))))))) xa_nil))) xss_nil)))
/-! is_all_whole -/
def e_is_all_whole (Γ : Gam) : Nf.S := (sSeq (sRet (eB bAll (aCons (eComp (iRange1 (aCons (eB bLen (aCons (eVar 0) aNil)) aNil)) (Nf.gName 1) [1] Nf.tYes (eOp cEq (eOp oIx (eCall Γ c_value_in (aCons (eVar 0) (aCons (eVar 1) aNil))) (eC (.int 1))) (eC (.int 1)))) aNil))) sNil)
theorem sc_is_all_whole : FnScope ["poly", "own"] ["poly"] (defScope (top 29)) := ⟨rfl, rfl, rfl, by decide +kernel, rfl, by decide +kernel, by decide +kernel⟩
theorem b_is_all_whole {fd : FuncData} {ad : Addr} {kws : List (PySem.Str × V)} (F : FunD K "is_all_whole" "is_all_whole" (defArgs (top 29)) (defBody (top 29)) (defScope (top 29)) [] kws ad fd) : Binds K fd ["poly"] [] := F.bindsN fun _ _ _ _ _ _ us hl => match us, hl with | [_], _ => rfl
theorem f_is_all_whole (c : Cn fa fn tu K mg) : FunD K "is_all_whole" "is_all_whole" (defArgs (top 29)) (defBody (top 29)) (defScope (top 29)) [] [] (He.ga K "is_all_whole") (fdOf K (He.ga K "is_all_whole")) := c.f 20 (d := d_is_all_whole) rfl
theorem k_is_all_whole (c : Cn fa fn tu K mg) (Γ : Gam) (h_value_in : FO P w K mg base k "value_in" ["poly", "number"] (Γ c_value_in)) : FO P w K mg base (k + 1) "is_all_whole" ["poly"] (runDef 1 2 (e_is_all_whole Γ)) := by
  refine fok (N := ["poly", "own"]) (fA K) (e_is_all_whole Γ) (f_is_all_whole c) sc_is_all_whole (by decide) ?_
  intro cdv A outer s0 H E ta hr hf
  exact (xss_cons (xret (xbf RE.back cs_all rfl (c.b 53 rfl) (by decide +kernel) (xa_consO (xOE (xEN (xcomp [1] sc_is_all_whole.nd (xiG (xi_range1 rfl (c.b 60 rfl) (xa_consO (xOE (xbf RE.back cs_len rfl (c.b 52 rfl) (by decide +kernel) (xa_consO (xOE (xv 0 rfl (.inr (.inl rfl)))) xa_nil))) xa_nil))) (blkOk_by (own := [("own", 1)]) (by kernel_rfl)) rfl (fun _ _ _ _ _ => (xg_name 1 sc_is_all_whole.nd rfl (.inl rfl))) (fun _ _ _ _ _ => xts_nil) (fun _ _ _ _ _ => (xcmp os_eq (xOE (xix (xOE (xcall Γ c_value_in h_value_in hr rfl (c.g 18 rfl) (f_value_in c).kp (b_value_in (f_value_in c)) (xa_cons (xv 0 rfl (.inr (.inl rfl))) (xa_cons (xv 1 rfl (.inl rfl)) xa_nil)))) (xOE (xi 1)))) (xOE (xi 1))))))) xa_nil))) xss_nil)
/-! chosen_in -/
def e_chosen_in (Γ : Gam) : Nf.S := (sSeq (sAsg (Nf.gName 1) (eC (.int 1))) (sSeq (sFor (iRange2 (aCons (eC (.int 2)) (aCons (eOp oAdd (eVar 0) (eC (.int 1))) aNil))) (Nf.gName 2) (sSeq (sAsg (Nf.gName 1) (eOp oMul (eVar 1) (eVar 2))) sNil)) (sSeq (sRet (eCall Γ c_scaled_in (aCons (eCall Γ c_roots_product (aCons (eLRg1 (eVar 0)) aNil)) (aCons (eTup (aCons (eC (.int 1)) (aCons (eVar 1) aNil))) aNil)))) sNil)))
theorem sc_chosen_in : FnScope ["number", "size", "own"] ["number"] (defScope (top 31)) := ⟨rfl, rfl, rfl, by decide +kernel, rfl, by decide +kernel, by decide +kernel⟩
theorem b_chosen_in {fd : FuncData} {ad : Addr} {kws : List (PySem.Str × V)} (F : FunD K "chosen_in" "chosen_in" (defArgs (top 31)) (defBody (top 31)) (defScope (top 31)) [] kws ad fd) : Binds K fd ["number"] [] := F.bindsN fun _ _ _ _ _ _ us hl => match us, hl with | [_], _ => rfl
theorem f_chosen_in (c : Cn fa fn tu K mg) : FunD K "chosen_in" "chosen_in" (defArgs (top 31)) (defBody (top 31)) (defScope (top 31)) [] [] (He.ga K "chosen_in") (fdOf K (He.ga K "chosen_in")) := c.f 21 (d := d_chosen_in) rfl
theorem k_chosen_in (c : Cn fa fn tu K mg) (Γ : Gam) (h_scaled_in : FO P w K mg base k "scaled_in" ["poly", "by"] (Γ c_scaled_in)) (h_roots_product : FO P w K mg base k "roots_product" ["numbers"] (Γ c_roots_product)) : FO P w K mg base (k + 1) "chosen_in" ["number"] (runDef 1 3 (e_chosen_in Γ)) := by
  refine fok (N := ["number", "size", "own"]) (fA K) (e_chosen_in Γ) (f_chosen_in c) sc_chosen_in (by decide) ?_
  intro cdv A outer s0 H E ta hr hf
  exact (xss_cons (xset 1 sc_chosen_in.nd rfl (.inl rfl) (xi 1)) (xss_cons (xfor PassesOwn.never (xi_range2 rfl (c.b 60 rfl) (xa_consO (xOE (xi 2)) (xa_consO (xOE (xopE os_add (xOE (xv 0 rfl (.inl rfl))) (xOE (xi 1)))) xa_nil))) (xg_name 2 sc_chosen_in.nd rfl (.inl rfl)) (xss_cons (xset 1 sc_chosen_in.nd rfl (.inl rfl) (xopE os_mul (xOE (xv 1 rfl (.inl rfl))) (xOE (xv 2 rfl (.inl rfl))))) xss_nil)) (xss_cons (xret (xcall Γ c_scaled_in h_scaled_in hr rfl (c.g 16 rfl) (f_scaled_in c).kp (b_scaled_in (f_scaled_in c)) (xa_cons (xcall Γ c_roots_product h_roots_product hr rfl (c.g 19 rfl) (f_roots_product c).kp (b_roots_product (f_roots_product c)) (xa_cons (xEN (xlrg1 rfl (c.b 59 rfl) rfl (c.b 60 rfl) (xOE (xv 0 rfl (.inl rfl))))) xa_nil)) (xa_cons (xtup (xa_cons (xi 1) (xa_cons (xv 1 rfl (.inl rfl)) xa_nil))) xa_nil)))) xss_nil)))
/-! chosen_poly -/
def e_chosen_poly (Γ : Gam) : Nf.S := (sSeq (sRet (eCall Γ c_chosen_in (aCons (eCall Γ c_sure_within (aCons (eVar 0) (aCons (eC (.int 0)) (aCons (eC (.int 40)) aNil)))) aNil))) sNil)
theorem sc_chosen_poly : FnScope ["number"] ["number"] (defScope (top 32)) := ⟨rfl, rfl, rfl, by decide +kernel, rfl, by decide +kernel, by decide +kernel⟩
theorem b_chosen_poly {fd : FuncData} {ad : Addr} {kws : List (PySem.Str × V)} (F : FunD K "chosen_poly" "chosen_poly" (defArgs (top 32)) (defBody (top 32)) (defScope (top 32)) [] kws ad fd) : Binds K fd ["number"] [] := F.bindsN fun _ _ _ _ _ _ us hl => match us, hl with | [_], _ => rfl
theorem f_chosen_poly (c : Cn fa fn tu K mg) : FunD K "chosen_poly" "chosen_poly" (defArgs (top 32)) (defBody (top 32)) (defScope (top 32)) [] [] (He.ga K "chosen_poly") (fdOf K (He.ga K "chosen_poly")) := c.f 22 (d := d_chosen_poly) rfl
theorem k_chosen_poly (c : Cn fa fn tu K mg) (Γ : Gam) (h_chosen_in : FO P w K mg base k "chosen_in" ["number"] (Γ c_chosen_in)) (h_sure_within : FO P w K mg base k "sure_within" ["thing", "least", "most"] (Γ c_sure_within)) : FO P w K mg base (k + 1) "chosen_poly" ["number"] (runDef 1 1 (e_chosen_poly Γ)) := by
  refine fok (N := ["number"]) (fA K) (e_chosen_poly Γ) (f_chosen_poly c) sc_chosen_poly (by decide) ?_
  intro cdv A outer s0 H E ta hr hf
  exact (xss_cons (xret (xcall Γ c_chosen_in h_chosen_in hr rfl (c.g 21 rfl) (f_chosen_in c).kp (b_chosen_in (f_chosen_in c)) (xa_cons (xcall Γ c_sure_within h_sure_within hr rfl (c.g 2 rfl) (f_sure_within c).kp (b_sure_within (f_sure_within c)) (xa_cons (xv 0 rfl (.inl rfl)) (xa_cons (xi 0) (xa_cons (xgi c 72 rfl rfl rfl) xa_nil)))) xa_nil))) xss_nil)
/-! sure_rests -/
def e_sure_rests (Γ : Gam) : Nf.S := (sSeq (sPar [(2, false), (3, false)] (aCons (eCall Γ c_sure_within (aCons (eVar 0) (aCons (eC (.int 1)) (aCons (eC (.int 60)) aNil)))) (aCons (eCall Γ c_tupled (aCons (eVar 1) aNil)) aNil))) (sSeq (sIf (Nf.tOr (Nf.tNot (tTru (eCall Γ c_are_numbers (aCons (eVar 3) aNil)))) (Nf.tOr (Nf.tNot (tBl (eChain cLe cLe (eC (.int 1)) (eB bLen (aCons (eVar 3) aNil)) (eC (.int 60))))) (Nf.tOr (tBl (eOp cLt (eB bMin (aCons (eVar 3) aNil)) (eC (.int 0)))) (tBl (eOp cGe (eB bMax (aCons (eVar 3) aNil)) (eVar 2)))))) (sSeq sBad sNil) sNil) (sSeq (sRet (eTup (aCons (eVar 2) (aCons (eVar 3) aNil)))) sNil)))
theorem sc_sure_rests : FnScope ["by", "rests", "own", "row"] ["by", "rests"] (defScope (top 37)) := ⟨rfl, rfl, rfl, by decide +kernel, rfl, by decide +kernel, by decide +kernel⟩
theorem b_sure_rests {fd : FuncData} {ad : Addr} {kws : List (PySem.Str × V)} (F : FunD K "sure_rests" "sure_rests" (defArgs (top 37)) (defBody (top 37)) (defScope (top 37)) [] kws ad fd) : Binds K fd ["by", "rests"] [] := F.bindsN fun _ _ _ _ _ _ us hl => match us, hl with | [_, _], _ => rfl
theorem f_sure_rests (c : Cn fa fn tu K mg) : FunD K "sure_rests" "sure_rests" (defArgs (top 37)) (defBody (top 37)) (defScope (top 37)) [] [] (He.ga K "sure_rests") (fdOf K (He.ga K "sure_rests")) := c.f 23 (d := d_sure_rests) rfl
theorem k_sure_rests (c : Cn fa fn tu K mg) (Γ : Gam) (h_tupled : FO P w K mg base k "tupled" ["value"] (Γ c_tupled)) (h_sure_within : FO P w K mg base k "sure_within" ["thing", "least", "most"] (Γ c_sure_within)) (h_are_numbers : FO P w K mg base k "are_numbers" ["thing"] (Γ c_are_numbers)) : FO P w K mg base (k + 1) "sure_rests" ["by", "rests"] (runDef 2 4 (e_sure_rests Γ)) := by
  refine fok (N := ["by", "rests", "own", "row"]) (fA K) (e_sure_rests Γ) (f_sure_rests c) sc_sure_rests (by decide) ?_
  intro cdv A outer s0 H E ta hr hf
  exact (xss_cons (xpar2 (b1 := false) (b2 := false) sc_sure_rests.nd (i := 2)  (j := 3) rfl rfl (by decide) rfl rfl (xm_e (xcall Γ c_sure_within h_sure_within hr rfl (c.g 2 rfl) (f_sure_within c).kp (b_sure_within (f_sure_within c)) (xa_cons (xv 0 rfl (.inl rfl)) (xa_cons (xi 1) (xa_cons (xgi c 75 rfl rfl rfl) xa_nil)))) (xm_e (xcall Γ c_tupled h_tupled hr rfl (c.g 5 rfl) (f_tupled c).kp (b_tupled (f_tupled c)) (xa_cons (xv 1 rfl (.inl rfl)) xa_nil)) xm_nil)) rfl) (xss_cons (xif' (PW.pt (xw_or (xt_not (xt_tru (xOE (xcall Γ c_are_numbers h_are_numbers hr rfl (c.g 4 rfl) (f_are_numbers c).kp (b_are_numbers (f_are_numbers c)) (xa_cons (xv 3 rfl (.inl rfl)) xa_nil))))) (xw_or (xt_not (xt_chain os_le os_le (xOE (xi 1)) (xOE (xbf RE.back cs_len rfl (c.b 52 rfl) (by decide +kernel) (xa_consO (xOE (xv 3 rfl (.inl rfl))) xa_nil))) (xOE (xgi c 76 rfl rfl rfl)))) (xw_or (xt_cmp os_lt (xOE (xbf RE.back cs_min rfl (c.b 66 rfl) (by decide +kernel) (xa_consO (xOE (xv 3 rfl (.inl rfl))) xa_nil))) (xOE (xi 0))) (xw_or1 (xt_cmp os_ge (xOE (xbf RE.back cs_max rfl (c.b 65 rfl) (by decide +kernel) (xa_consO (xOE (xv 3 rfl (.inl rfl))) xa_nil))) (xOE (xv 2 rfl (.inl rfl))))))))) (xss_cons xbad xss_nil) xss_nil) (xss_cons (xret (xtup (xa_cons (xv 2 rfl (.inl rfl)) (xa_cons (xv 3 rfl (.inl rfl)) xa_nil)))) xss_nil)))
/-! power_of -/
def e_power_of (Γ : Gam) : Nf.S := (sSeq (sAsg (Nf.gName 2) (eC (.int 1))) (sSeq (sFor (iRange1 (aCons (eVar 1) aNil)) (Nf.gName 3) (sSeq (sAsg (Nf.gName 2) (eOp oMul (eVar 2) (eVar 0))) sNil)) (sSeq (sRet (eVar 2)) sNil)))
theorem sc_power_of : FnScope ["prime", "many", "found", "lap"] ["prime", "many"] (defScope (top 38)) := ⟨rfl, rfl, rfl, by decide +kernel, rfl, by decide +kernel, by decide +kernel⟩
theorem b_power_of {fd : FuncData} {ad : Addr} {kws : List (PySem.Str × V)} (F : FunD K "power_of" "power_of" (defArgs (top 38)) (defBody (top 38)) (defScope (top 38)) [] kws ad fd) : Binds K fd ["prime", "many"] [] := F.bindsN fun _ _ _ _ _ _ us hl => match us, hl with | [_, _], _ => rfl
theorem f_power_of (c : Cn fa fn tu K mg) : FunD K "power_of" "power_of" (defArgs (top 38)) (defBody (top 38)) (defScope (top 38)) [] [] (He.ga K "power_of") (fdOf K (He.ga K "power_of")) := c.f 24 (d := d_power_of) rfl
theorem k_power_of (c : Cn fa fn tu K mg) (Γ : Gam) : FO P w K mg base (k + 1) "power_of" ["prime", "many"] (runDef 2 4 (e_power_of Γ)) := by
  refine fok (N := ["prime", "many", "found", "lap"]) (fA K) (e_power_of Γ) (f_power_of c) sc_power_of (by decide) ?_
  intro cdv A outer s0 H E ta hr hf
  exact (xss_cons (xset 2 sc_power_of.nd rfl (.inl rfl) (xi 1)) (xss_cons (xfor PassesOwn.never (xi_range1 rfl (c.b 60 rfl) (xa_consO (xOE (xv 1 rfl (.inl rfl))) xa_nil)) (xg_name 3 sc_power_of.nd rfl (.inl rfl)) (xss_cons (xset 2 sc_power_of.nd rfl (.inl rfl) (xopE os_mul (xOE (xv 2 rfl (.inl rfl))) (xOE (xv 0 rfl (.inl rfl))))) xss_nil)) (xss_cons (xret (xv 2 rfl (.inl rfl))) xss_nil)))
/-! clash_in -/
def e_clash_in (Γ : Gam) : Nf.S := (sSeq (sFor (iSeq (eCall Γ c_primes_of (aCons (eVar 0) aNil))) (Nf.gName 2) (sSeq (sAsg (Nf.gName 3) (eCall Γ c_power_of (aCons (eVar 2) (aCons (eCall Γ c_power_in (aCons (eVar 0) (aCons (eVar 2) aNil))) aNil)))) (sSeq (sAsg (Nf.gName 4) (eCall Γ c_power_of (aCons (eVar 2) (aCons (eCall Γ c_power_in (aCons (eB bLen (aCons (eVar 1) aNil)) (aCons (eVar 2) aNil))) aNil)))) (sSeq (sFor (iRange1 (aCons (eB bLen (aCons (eVar 1) aNil)) aNil)) (Nf.gName 5) (sSeq (sIf (tBl (eOp cNe (eOp oMod (eOp oSub (eOp oIx (eVar 1) (eVar 5)) (eOp oIx (eVar 1) (eOp oMod (eVar 5) (eVar 4)))) (eVar 3)) (eC (.int 0)))) (sSeq (sRet (eTup (aCons (eVar 2) (aCons (eOp oMod (eVar 5) (eVar 4)) (aCons (eVar 5) aNil))))) sNil) sNil) sNil)) sNil)))) (sSeq (sRet (eC .non)) sNil))
theorem sc_clash_in : FnScope ["by", "row", "prime", "size", "part", "place"] ["by", "row"] (defScope (top 39)) := ⟨rfl, rfl, rfl, by decide +kernel, rfl, by decide +kernel, by decide +kernel⟩
theorem b_clash_in {fd : FuncData} {ad : Addr} {kws : List (PySem.Str × V)} (F : FunD K "clash_in" "clash_in" (defArgs (top 39)) (defBody (top 39)) (defScope (top 39)) [] kws ad fd) : Binds K fd ["by", "row"] [] := F.bindsN fun _ _ _ _ _ _ us hl => match us, hl with | [_, _], _ => rfl
theorem f_clash_in (c : Cn fa fn tu K mg) : FunD K "clash_in" "clash_in" (defArgs (top 39)) (defBody (top 39)) (defScope (top 39)) [] [] (He.ga K "clash_in") (fdOf K (He.ga K "clash_in")) := c.f 25 (d := d_clash_in) rfl
theorem k_clash_in (c : Cn fa fn tu K mg) (Γ : Gam) (h_primes_of : FO P w K mg base k "primes_of" ["number"] (Γ c_primes_of)) (h_power_of : FO P w K mg base k "power_of" ["prime", "many"] (Γ c_power_of)) (h_power_in : FO P w K mg base k "power_in" ["number", "prime"] (Γ c_power_in)) : FO P w K mg base (k + 1) "clash_in" ["by", "row"] (runDef 2 6 (e_clash_in Γ)) := by
  refine fok (N := ["by", "row", "prime", "size", "part", "place"]) (fA K) (e_clash_in Γ) (f_clash_in c) sc_clash_in (by decide) ?_
  intro cdv A outer s0 H E ta hr hf
  exact (xss_cons (xfor PassesOwn.never (xi_seq (xcall Γ c_primes_of h_primes_of hr rfl (c.g 11 rfl) (f_primes_of c).kp (b_primes_of (f_primes_of c)) (xa_cons (xv 0 rfl (.inl rfl)) xa_nil))) (xg_name 2 sc_clash_in.nd rfl (.inl rfl)) (xss_cons (xset 3 sc_clash_in.nd rfl (.inl rfl) (xcall Γ c_power_of h_power_of hr rfl (c.g 24 rfl) (f_power_of c).kp (b_power_of (f_power_of c)) (xa_cons (xv 2 rfl (.inl rfl)) (xa_cons (xcall Γ c_power_in h_power_in hr rfl (c.g 12 rfl) (f_power_in c).kp (b_power_in (f_power_in c)) (xa_cons (xv 0 rfl (.inl rfl)) (xa_cons (xv 2 rfl (.inl rfl)) xa_nil))) xa_nil)))) (xss_cons (xset 4 sc_clash_in.nd rfl (.inl rfl) (xcall Γ c_power_of h_power_of hr rfl (c.g 24 rfl) (f_power_of c).kp (b_power_of (f_power_of c)) (xa_cons (xv 2 rfl (.inl rfl)) (xa_cons (xcall Γ c_power_in h_power_in hr rfl (c.g 12 rfl) (f_power_in c).kp (b_power_in (f_power_in c)) (xa_cons (xbf RE.back cs_len rfl (c.b 52 rfl) (by decide +kernel) (xa_consO (xOE (xv 1 rfl (.inl rfl))) xa_nil)) (xa_cons (xv 2 rfl (.inl rfl)) xa_nil))) xa_nil)))) (xss_cons (xfor PassesOwn.never (xi_range1 rfl (c.b 60 rfl) (xa_consO (xOE (xbf RE.back cs_len rfl (c.b 52 rfl) (by decide +kernel) (xa_consO (xOE (xv 1 rfl (.inl rfl))) xa_nil))) xa_nil)) (xg_name 5 sc_clash_in.nd rfl (.inl rfl)) (xss_cons (xif' (xt_cmp os_ne (xOE (xopE os_mod (xOE (xopE os_sub (xOE (xix (xOE (xv 1 rfl (.inl rfl))) (xOE (xv 5 rfl (.inl rfl))))) (xOE (xix (xOE (xv 1 rfl (.inl rfl))) (xOE (xopE os_mod (xOE (xv 5 rfl (.inl rfl))) (xOE (xv 4 rfl (.inl rfl))))))))) (xOE (xv 3 rfl (.inl rfl))))) (xOE (xi 0))) (xss_cons (xret (xtup (xa_cons (xv 2 rfl (.inl rfl)) (xa_cons (xopE os_mod (xOE (xv 5 rfl (.inl rfl))) (xOE (xv 4 rfl (.inl rfl)))) (xa_cons (xv 5 rfl (.inl rfl)) xa_nil))))) xss_nil) xss_nil) xss_nil)) xss_nil)))) (xss_cons (xret xn) xss_nil))
/-! reach_of -/
def e_reach_of (Γ : Gam) : Nf.S := (sSeq (sAsg (Nf.gName 2) (eC (.int 1))) (sSeq (sFor (iSeq (eCall Γ c_primes_of (aCons (eVar 0) aNil))) (Nf.gName 3) (sSeq (sAsg (Nf.gName 2) (eB bMax (aCons (eVar 2) (aCons (eOp oMul (eCall Γ c_power_in (aCons (eVar 0) (aCons (eVar 3) aNil))) (eCall Γ c_power_of (aCons (eVar 3) (aCons (eCall Γ c_power_in (aCons (eVar 1) (aCons (eVar 3) aNil))) aNil)))) aNil)))) sNil)) (sSeq (sRet (eVar 2)) sNil)))
theorem sc_reach_of : FnScope ["by", "long", "found", "prime"] ["by", "long"] (defScope (top 40)) := ⟨rfl, rfl, rfl, by decide +kernel, rfl, by decide +kernel, by decide +kernel⟩
theorem b_reach_of {fd : FuncData} {ad : Addr} {kws : List (PySem.Str × V)} (F : FunD K "reach_of" "reach_of" (defArgs (top 40)) (defBody (top 40)) (defScope (top 40)) [] kws ad fd) : Binds K fd ["by", "long"] [] := F.bindsN fun _ _ _ _ _ _ us hl => match us, hl with | [_, _], _ => rfl
theorem f_reach_of (c : Cn fa fn tu K mg) : FunD K "reach_of" "reach_of" (defArgs (top 40)) (defBody (top 40)) (defScope (top 40)) [] [] (He.ga K "reach_of") (fdOf K (He.ga K "reach_of")) := c.f 26 (d := d_reach_of) rfl
theorem k_reach_of (c : Cn fa fn tu K mg) (Γ : Gam) (h_primes_of : FO P w K mg base k "primes_of" ["number"] (Γ c_primes_of)) (h_power_in : FO P w K mg base k "power_in" ["number", "prime"] (Γ c_power_in)) (h_power_of : FO P w K mg base k "power_of" ["prime", "many"] (Γ c_power_of)) : FO P w K mg base (k + 1) "reach_of" ["by", "long"] (runDef 2 4 (e_reach_of Γ)) := by
  refine fok (N := ["by", "long", "found", "prime"]) (fA K) (e_reach_of Γ) (f_reach_of c) sc_reach_of (by decide) ?_
  intro cdv A outer s0 H E ta hr hf
  exact (xss_cons (xset 2 sc_reach_of.nd rfl (.inl rfl) (xi 1)) (xss_cons (xfor PassesOwn.never (xi_seq (xcall Γ c_primes_of h_primes_of hr rfl (c.g 11 rfl) (f_primes_of c).kp (b_primes_of (f_primes_of c)) (xa_cons (xv 0 rfl (.inl rfl)) xa_nil))) (xg_name 3 sc_reach_of.nd rfl (.inl rfl)) (xss_cons (xset 2 sc_reach_of.nd rfl (.inl rfl) (xbf RE.back cs_max rfl (c.b 65 rfl) (by decide +kernel) (xa_consO (xOE (xv 2 rfl (.inl rfl))) (xa_consO (xOE (xopE os_mul (xOE (xcall Γ c_power_in h_power_in hr rfl (c.g 12 rfl) (f_power_in c).kp (b_power_in (f_power_in c)) (xa_cons (xv 0 rfl (.inl rfl)) (xa_cons (xv 3 rfl (.inl rfl)) xa_nil)))) (xOE (xcall Γ c_power_of h_power_of hr rfl (c.g 24 rfl) (f_power_of c).kp (b_power_of (f_power_of c)) (xa_cons (xv 3 rfl (.inl rfl)) (xa_cons (xcall Γ c_power_in h_power_in hr rfl (c.g 12 rfl) (f_power_in c).kp (b_power_in (f_power_in c)) (xa_cons (xv 1 rfl (.inl rfl)) (xa_cons (xv 3 rfl (.inl rfl)) xa_nil))) xa_nil)))))) xa_nil)))) xss_nil)) (xss_cons (xret (xv 2 rfl (.inl rfl))) xss_nil)))
/-! can_tell_rests -/
def e_can_tell_rests (Γ : Gam) : Nf.S := (sSeq (sAsg (Nf.gTup [(Nf.gName 2), (Nf.gName 3)]) (eCall Γ c_sure_rests (aCons (eVar 0) (aCons (eVar 1) aNil)))) (sSeq (sRet (eOp oIsN (eCall Γ c_clash_in (aCons (eVar 2) (aCons (eVar 3) aNil))) (eC .non))) sNil))
theorem sc_can_tell_rests : FnScope ["by", "rests", "own", "row"] ["by", "rests"] (defScope (top 41)) := ⟨rfl, rfl, rfl, by decide +kernel, rfl, by decide +kernel, by decide +kernel⟩
theorem b_can_tell_rests {fd : FuncData} {ad : Addr} {kws : List (PySem.Str × V)} (F : FunD K "can_tell_rests" "can_tell_rests" (defArgs (top 41)) (defBody (top 41)) (defScope (top 41)) [] kws ad fd) : Binds K fd ["by", "rests"] [] := F.bindsN fun _ _ _ _ _ _ us hl => match us, hl with | [_, _], _ => rfl
theorem f_can_tell_rests (c : Cn fa fn tu K mg) : FunD K "can_tell_rests" "can_tell_rests" (defArgs (top 41)) (defBody (top 41)) (defScope (top 41)) [] [] (He.ga K "can_tell_rests") (fdOf K (He.ga K "can_tell_rests")) := c.f 27 (d := d_can_tell_rests) rfl
theorem k_can_tell_rests (c : Cn fa fn tu K mg) (Γ : Gam) (h_sure_rests : FO P w K mg base k "sure_rests" ["by", "rests"] (Γ c_sure_rests)) (h_clash_in : FO P w K mg base k "clash_in" ["by", "row"] (Γ c_clash_in)) : FO P w K mg base (k + 1) "can_tell_rests" ["by", "rests"] (runDef 2 4 (e_can_tell_rests Γ)) := by
  refine fok (N := ["by", "rests", "own", "row"]) (fA K) (e_can_tell_rests Γ) (f_can_tell_rests c) sc_can_tell_rests (by decide) ?_
  intro cdv A outer s0 H E ta hr hf
  exact (xss_cons (xasg (xcall Γ c_sure_rests h_sure_rests hr rfl (c.g 23 rfl) (f_sure_rests c).kp (b_sure_rests (f_sure_rests c)) (xa_cons (xv 0 rfl (.inl rfl)) (xa_cons (xv 1 rfl (.inl rfl)) xa_nil))) (xg_tup (xgs_cons (xg_name 2 sc_can_tell_rests.nd rfl (.inl rfl)) (xgs_cons (xg_name 3 sc_can_tell_rests.nd rfl (.inl rfl)) xgs_nil)))) (xss_cons (xret (xcmp os_isN (xOE (xcall Γ c_clash_in h_clash_in hr rfl (c.g 25 rfl) (f_clash_in c).kp (b_clash_in (f_clash_in c)) (xa_cons (xv 2 rfl (.inl rfl)) (xa_cons (xv 3 rfl (.inl rfl)) xa_nil)))) (xOE xn))) xss_nil))
/-! tells_rests -/
def e_tells_rests (Γ : Gam) : Nf.S := (sSeq (sIf (Nf.tOr (Nf.tNot (tTru (eCall Γ c_is_poly (aCons (eVar 2) aNil)))) (tBl (eOp cGt (eB bLen (aCons (eVar 2) aNil)) (eOp oAdd (eC (.int 40)) (eC (.int 1)))))) (sSeq (sRet (eC (.bl false))) sNil) sNil) (sSeq (sIf (Nf.tNot (tTru (eCall Γ c_is_all_whole (aCons (eVar 2) aNil)))) (sSeq (sRet (eC (.bl false))) sNil) sNil) (sSeq (sAsg (Nf.gName 3) (eB bMax (aCons (eB bLen (aCons (eVar 2) aNil)) (aCons (eCall Γ c_reach_of (aCons (eVar 0) (aCons (eB bLen (aCons (eVar 1) aNil)) aNil))) aNil)))) (sSeq (sRet (eB bAll (aCons (eComp (iRange1 (aCons (eVar 3) aNil)) (Nf.gName 4) [4] Nf.tYes (eOp cEq (eOp oMod (eOp oSub (eOp oIx (eCall Γ c_value_in (aCons (eVar 2) (aCons (eVar 4) aNil))) (eC (.int 0))) (eOp oIx (eVar 1) (eOp oMod (eVar 4) (eB bLen (aCons (eVar 1) aNil))))) (eVar 0)) (eC (.int 0)))) aNil))) sNil))))
theorem sc_tells_rests : FnScope ["by", "row", "thing", "long", "place"] ["by", "row", "thing"] (defScope (top 42)) := ⟨rfl, rfl, rfl, by decide +kernel, rfl, by decide +kernel, by decide +kernel⟩
theorem b_tells_rests {fd : FuncData} {ad : Addr} {kws : List (PySem.Str × V)} (F : FunD K "tells_rests" "tells_rests" (defArgs (top 42)) (defBody (top 42)) (defScope (top 42)) [] kws ad fd) : Binds K fd ["by", "row", "thing"] [] := F.bindsN fun _ _ _ _ _ _ us hl => match us, hl with | [_, _, _], _ => rfl
theorem f_tells_rests (c : Cn fa fn tu K mg) : FunD K "tells_rests" "tells_rests" (defArgs (top 42)) (defBody (top 42)) (defScope (top 42)) [] [] (He.ga K "tells_rests") (fdOf K (He.ga K "tells_rests")) := c.f 28 (d := d_tells_rests) rfl
theorem k_tells_rests (c : Cn fa fn tu K mg) (Γ : Gam) (h_is_poly : FO P w K mg base k "is_poly" ["thing"] (Γ c_is_poly)) (h_is_all_whole : FO P w K mg base k "is_all_whole" ["poly"] (Γ c_is_all_whole)) (h_reach_of : FO P w K mg base k "reach_of" ["by", "long"] (Γ c_reach_of)) (h_value_in : FO P w K mg base k "value_in" ["poly", "number"] (Γ c_value_in)) : FO P w K mg base (k + 1) "tells_rests" ["by", "row", "thing"] (runDef 3 5 (e_tells_rests Γ)) := by
  refine fok (N := ["by", "row", "thing", "long", "place"]) (fA K) (e_tells_rests Γ) (f_tells_rests c) sc_tells_rests (by decide) ?_
  intro cdv A outer s0 H E ta hr hf
  exact (xss_cons (xif' (PW.pt (xw_or (xt_not (xt_tru (xOE (xcall Γ c_is_poly h_is_poly hr rfl (c.g 13 rfl) (f_is_poly c).kp (b_is_poly (f_is_poly c)) (xa_cons (xv 2 rfl (.inr (.inl rfl))) xa_nil))))) (xw_or1 (xt_cmp os_gt (xOE (xbf RE.back cs_len rfl (c.b 52 rfl) (by decide +kernel) (xa_consO (xOE (xv 2 rfl (.inr (.inl rfl)))) xa_nil))) (xOE (xopE os_add (xOE (xgi c 72 rfl rfl rfl)) (xOE (xi 1)))))))) (xss_cons (xret (xb false)) xss_nil) xss_nil) (xss_cons (xif' (xt_not (xt_tru (xOE (xcall Γ c_is_all_whole h_is_all_whole hr rfl (c.g 20 rfl) (f_is_all_whole c).kp (b_is_all_whole (f_is_all_whole c)) (xa_cons (xv 2 rfl (.inr (.inl rfl))) xa_nil))))) (xss_cons (xret (xb false)) xss_nil) xss_nil) (xss_cons (xset 3 sc_tells_rests.nd rfl (.inl rfl) (xbf RE.back cs_max rfl (c.b 65 rfl) (by decide +kernel) (xa_consO (xOE (xbf RE.back cs_len rfl (c.b 52 rfl) (by decide +kernel) (xa_consO (xOE (xv 2 rfl (.inr (.inl rfl)))) xa_nil))) (xa_consO (xOE (xcall Γ c_reach_of h_reach_of hr rfl (c.g 26 rfl) (f_reach_of c).kp (b_reach_of (f_reach_of c)) (xa_cons (xv 0 rfl (.inr (.inl rfl))) (xa_cons (xbf RE.back cs_len rfl (c.b 52 rfl) (by decide +kernel) (xa_consO (xOE (xv 1 rfl (.inr (.inl rfl)))) xa_nil)) xa_nil)))) xa_nil)))) (xss_cons (xret (xbf RE.back cs_all rfl (c.b 53 rfl) (by decide +kernel) (xa_consO (xOE (xEN (xcomp [4] sc_tells_rests.nd (xiG (xi_range1 rfl (c.b 60 rfl) (xa_consO (xOE (xv 3 rfl (.inl rfl))) xa_nil))) (blkOk_by (own := [("place", 4)]) (by kernel_rfl)) rfl (fun _ _ _ _ _ => (xg_name 4 sc_tells_rests.nd rfl (.inl rfl))) (fun _ _ _ _ _ => xts_nil) (fun _ _ _ _ _ => (xcmp os_eq (xOE (xopE os_mod (xOE (xopE os_sub (xOE (xix (xOE (xcall Γ c_value_in h_value_in hr rfl (c.g 18 rfl) (f_value_in c).kp (b_value_in (f_value_in c)) (xa_cons (xv 2 rfl (.inr (.inl rfl))) (xa_cons (xv 4 rfl (.inl rfl)) xa_nil)))) (xOE (xi 0)))) (xOE (xix (xOE (xv 1 rfl (.inr (.inl rfl)))) (xOE (xopE os_mod (xOE (xv 4 rfl (.inl rfl))) (xOE (xbf RE.back cs_len rfl (c.b 52 rfl) (by decide +kernel) (xa_consO (xOE (xv 1 rfl (.inr (.inl rfl)))) xa_nil))))))))) (xOE (xv 0 rfl (.inr (.inl rfl)))))) (xOE (xi 0))))))) xa_nil))) xss_nil))))
/-! is_rests_poly -/
def e_is_rests_poly (Γ : Gam) : Nf.S := (sSeq (sAsg (Nf.gTup [(Nf.gName 3), (Nf.gName 4)]) (eCall Γ c_sure_rests (aCons (eVar 0) (aCons (eVar 1) aNil)))) (sSeq (sRet (eAnd (eOp oIsN (eCall Γ c_clash_in (aCons (eVar 3) (aCons (eVar 4) aNil))) (eC .non)) (eCall Γ c_tells_rests (aCons (eVar 3) (aCons (eVar 4) (aCons (eVar 2) aNil)))))) sNil))
theorem sc_is_rests_poly : FnScope ["by", "rests", "thing", "own", "row"] ["by", "rests", "thing"] (defScope (top 43)) := ⟨rfl, rfl, rfl, by decide +kernel, rfl, by decide +kernel, by decide +kernel⟩
theorem b_is_rests_poly {fd : FuncData} {ad : Addr} {kws : List (PySem.Str × V)} (F : FunD K "is_rests_poly" "is_rests_poly" (defArgs (top 43)) (defBody (top 43)) (defScope (top 43)) [] kws ad fd) : Binds K fd ["by", "rests", "thing"] [] := F.bindsN fun _ _ _ _ _ _ us hl => match us, hl with | [_, _, _], _ => rfl
theorem f_is_rests_poly (c : Cn fa fn tu K mg) : FunD K "is_rests_poly" "is_rests_poly" (defArgs (top 43)) (defBody (top 43)) (defScope (top 43)) [] [] (He.ga K "is_rests_poly") (fdOf K (He.ga K "is_rests_poly")) := c.f 29 (d := d_is_rests_poly) rfl
theorem k_is_rests_poly (c : Cn fa fn tu K mg) (Γ : Gam) (h_sure_rests : FO P w K mg base k "sure_rests" ["by", "rests"] (Γ c_sure_rests)) (h_clash_in : FO P w K mg base k "clash_in" ["by", "row"] (Γ c_clash_in)) (h_tells_rests : FO P w K mg base k "tells_rests" ["by", "row", "thing"] (Γ c_tells_rests)) : FO P w K mg base (k + 1) "is_rests_poly" ["by", "rests", "thing"] (runDef 3 5 (e_is_rests_poly Γ)) := by
  refine fok (N := ["by", "rests", "thing", "own", "row"]) (fA K) (e_is_rests_poly Γ) (f_is_rests_poly c) sc_is_rests_poly (by decide) ?_
  intro cdv A outer s0 H E ta hr hf
  exact (xss_cons (xasg (xcall Γ c_sure_rests h_sure_rests hr rfl (c.g 23 rfl) (f_sure_rests c).kp (b_sure_rests (f_sure_rests c)) (xa_cons (xv 0 rfl (.inl rfl)) (xa_cons (xv 1 rfl (.inl rfl)) xa_nil))) (xg_tup (xgs_cons (xg_name 3 sc_is_rests_poly.nd rfl (.inl rfl)) (xgs_cons (xg_name 4 sc_is_rests_poly.nd rfl (.inl rfl)) xgs_nil)))) (xss_cons (xret (xand (xcmp os_isN (xOE (xcall Γ c_clash_in h_clash_in hr rfl (c.g 25 rfl) (f_clash_in c).kp (b_clash_in (f_clash_in c)) (xa_cons (xv 3 rfl (.inl rfl)) (xa_cons (xv 4 rfl (.inl rfl)) xa_nil)))) (xOE xn)) (xoneN (xcall Γ c_tells_rests h_tells_rests hr rfl (c.g 28 rfl) (f_tells_rests c).kp (b_tells_rests (f_tells_rests c)) (xa_cons (xv 3 rfl (.inl rfl)) (xa_cons (xv 4 rfl (.inl rfl)) (xa_cons (xv 2 rfl (.inl rfl)) xa_nil))))))) xss_nil))
/-! sure_whole -/
def e_sure_whole (Γ : Gam) : Nf.S := (sSeq (sAsg (Nf.gName 1) (eCall Γ c_sure_poly (aCons (eVar 0) aNil))) (sSeq (sIf (Nf.tNot (tTru (eCall Γ c_is_all_whole (aCons (eVar 1) aNil)))) (sSeq sBad sNil) sNil) (sSeq (sRet (eVar 1)) sNil)))
theorem sc_sure_whole : FnScope ["poly", "own"] ["poly"] (defScope (top 44)) := ⟨rfl, rfl, rfl, by decide +kernel, rfl, by decide +kernel, by decide +kernel⟩
theorem b_sure_whole {fd : FuncData} {ad : Addr} {kws : List (PySem.Str × V)} (F : FunD K "sure_whole" "sure_whole" (defArgs (top 44)) (defBody (top 44)) (defScope (top 44)) [] kws ad fd) : Binds K fd ["poly"] [] := F.bindsN fun _ _ _ _ _ _ us hl => match us, hl with | [_], _ => rfl
theorem f_sure_whole (c : Cn fa fn tu K mg) : FunD K "sure_whole" "sure_whole" (defArgs (top 44)) (defBody (top 44)) (defScope (top 44)) [] [] (He.ga K "sure_whole") (fdOf K (He.ga K "sure_whole")) := c.f 30 (d := d_sure_whole) rfl
theorem k_sure_whole (c : Cn fa fn tu K mg) (Γ : Gam) (h_sure_poly : FO P w K mg base k "sure_poly" ["value"] (Γ c_sure_poly)) (h_is_all_whole : FO P w K mg base k "is_all_whole" ["poly"] (Γ c_is_all_whole)) : FO P w K mg base (k + 1) "sure_whole" ["poly"] (runDef 1 2 (e_sure_whole Γ)) := by
  refine fok (N := ["poly", "own"]) (fA K) (e_sure_whole Γ) (f_sure_whole c) sc_sure_whole (by decide) ?_
  intro cdv A outer s0 H E ta hr hf
  exact (xss_cons (xset 1 sc_sure_whole.nd rfl (.inl rfl) (xcall Γ c_sure_poly h_sure_poly hr rfl (c.g 14 rfl) (f_sure_poly c).kp (b_sure_poly (f_sure_poly c)) (xa_cons (xv 0 rfl (.inl rfl)) xa_nil))) (xss_cons (xif' (xt_not (xt_tru (xOE (xcall Γ c_is_all_whole h_is_all_whole hr rfl (c.g 20 rfl) (f_is_all_whole c).kp (b_is_all_whole (f_is_all_whole c)) (xa_cons (xv 1 rfl (.inl rfl)) xa_nil))))) (xss_cons xbad xss_nil) xss_nil) (xss_cons (xret (xv 1 rfl (.inl rfl))) xss_nil)))
/-! long_round -/
def e_long_round (Γ : Gam) : Nf.S := (sSeq (sAsg (Nf.gName 2) (eC (.int 1))) (sSeq (sFor (iSeq (eIf (tBl (eOp cGt (eVar 1) (eC (.int 0)))) (eCall Γ c_primes_of (aCons (eVar 0) aNil)) (eLst aNil))) (Nf.gName 3) (sSeq (sPar [(4, false), (5, false)] (aCons (eCall Γ c_power_of (aCons (eVar 3) (aCons (eCall Γ c_power_in (aCons (eVar 0) (aCons (eVar 3) aNil))) aNil))) (aCons (eVar 1) aNil))) (sSeq (sWhile (tBl (eOp cGe (eVar 5) (eVar 3))) (sSeq (sPar [(4, false), (5, false)] (aCons (eOp oMul (eVar 4) (eVar 3)) (aCons (eOp oDiv (eVar 5) (eVar 3)) aNil))) sNil)) (sSeq (sAsg (Nf.gName 2) (eOp oMul (eVar 2) (eVar 4))) sNil)))) (sSeq (sIf (tBl (eOp cGt (eVar 2) (eC (.int 20000)))) (sSeq sBad sNil) sNil) (sSeq (sRet (eVar 2)) sNil))))
theorem sc_long_round : FnScope ["by", "degree", "found", "prime", "size", "left"] ["by", "degree"] (defScope (top 45)) := ⟨rfl, rfl, rfl, by decide +kernel, rfl, by decide +kernel, by decide +kernel⟩
theorem b_long_round {fd : FuncData} {ad : Addr} {kws : List (PySem.Str × V)} (F : FunD K "long_round" "long_round" (defArgs (top 45)) (defBody (top 45)) (defScope (top 45)) [] kws ad fd) : Binds K fd ["by", "degree"] [] := F.bindsN fun _ _ _ _ _ _ us hl => match us, hl with | [_, _], _ => rfl
theorem f_long_round (c : Cn fa fn tu K mg) : FunD K "long_round" "long_round" (defArgs (top 45)) (defBody (top 45)) (defScope (top 45)) [] [] (He.ga K "long_round") (fdOf K (He.ga K "long_round")) := c.f 31 (d := d_long_round) rfl
theorem k_long_round (c : Cn fa fn tu K mg) (Γ : Gam) (h_primes_of : FO P w K mg base k "primes_of" ["number"] (Γ c_primes_of)) (h_power_of : FO P w K mg base k "power_of" ["prime", "many"] (Γ c_power_of)) (h_power_in : FO P w K mg base k "power_in" ["number", "prime"] (Γ c_power_in)) : FO P w K mg base (k + 1) "long_round" ["by", "degree"] (runDef 2 6 (e_long_round Γ)) := by
  refine fok (N := ["by", "degree", "found", "prime", "size", "left"]) (fA K) (e_long_round Γ) (f_long_round c) sc_long_round (by decide) ?_
  intro cdv A outer s0 H E ta hr hf
  exact (xss_cons (xset 2 sc_long_round.nd rfl (.inl rfl) (xi 1)) (xss_cons (xfor PassesOwn.never (xi_seq (xif (xt_cmp os_gt (xOE (xv 1 rfl (.inl rfl))) (xOE (xi 0))) (xcall Γ c_primes_of h_primes_of hr rfl (c.g 11 rfl) (f_primes_of c).kp (b_primes_of (f_primes_of c)) (xa_cons (xv 0 rfl (.inl rfl)) xa_nil)) (xEN (xlst xa_nil)))) (xg_name 3 sc_long_round.nd rfl (.inl rfl)) (xss_cons (xpar2 (b1 := false) (b2 := false) sc_long_round.nd (i := 4)  (j := 5) rfl rfl (by decide) rfl rfl (xm_e (xcall Γ c_power_of h_power_of hr rfl (c.g 24 rfl) (f_power_of c).kp (b_power_of (f_power_of c)) (xa_cons (xv 3 rfl (.inl rfl)) (xa_cons (xcall Γ c_power_in h_power_in hr rfl (c.g 12 rfl) (f_power_in c).kp (b_power_in (f_power_in c)) (xa_cons (xv 0 rfl (.inl rfl)) (xa_cons (xv 3 rfl (.inl rfl)) xa_nil))) xa_nil))) (xm_e (xv 1 rfl (.inl rfl)) xm_nil)) rfl) (xss_cons (xwhile PassesOwn.never (xt_cmp os_ge (xOE (xv 5 rfl (.inl rfl))) (xOE (xv 3 rfl (.inl rfl)))) (xss_cons (xpar2 (b1 := false) (b2 := false) sc_long_round.nd (i := 4)  (j := 5) rfl rfl (by decide) rfl rfl (xm_e (xopE os_mul (xOE (xv 4 rfl (.inl rfl))) (xOE (xv 3 rfl (.inl rfl)))) (xm_e (xopE os_div (xOE (xv 5 rfl (.inl rfl))) (xOE (xv 3 rfl (.inl rfl)))) xm_nil)) rfl) xss_nil)) (xss_cons (xset 2 sc_long_round.nd rfl (.inl rfl) (xopE os_mul (xOE (xv 2 rfl (.inl rfl))) (xOE (xv 4 rfl (.inl rfl))))) xss_nil)))) (xss_cons (xif' (xt_cmp os_gt (xOE (xv 2 rfl (.inl rfl))) (xOE (xgi c 77 rfl rfl rfl))) (xss_cons xbad xss_nil) xss_nil) (xss_cons (xret (xv 2 rfl (.inl rfl))) xss_nil))))
/-! poly_rests -/
def e_poly_rests (Γ : Gam) : Nf.S := (sSeq (sAsg (Nf.gTup [(Nf.gName 2), (Nf.gName 3)]) (eTup (aCons (eCall Γ c_sure_poly (aCons (eVar 0) aNil)) (aCons (eCall Γ c_sure_within (aCons (eVar 1) (aCons (eC (.int 1)) (aCons (eC (.int 60)) aNil)))) aNil)))) (sSeq (sAsg (Nf.gName 4) (eCall Γ c_sure_whole (aCons (eVar 2) aNil))) (sSeq (sAsg (Nf.gName 5) (eCall Γ c_long_round (aCons (eVar 3) (aCons (eOp oSub (eB bLen (aCons (eVar 4) aNil)) (eC (.int 1))) aNil)))) (sSeq (sAsg (Nf.gName 6) (eComp (iRange1 (aCons (eVar 5) aNil)) (Nf.gName 8) [8] Nf.tYes (eOp oMod (eOp oIx (eCall Γ c_value_in (aCons (eVar 4) (aCons (eVar 8) aNil))) (eC (.int 0))) (eVar 3)))) (sSeq (sFor (iRange2 (aCons (eC (.int 1)) (aCons (eOp oAdd (eVar 5) (eC (.int 1))) aNil))) (Nf.gName 7) (sSeq (sIf (Nf.tAnd (tBl (eOp cEq (eOp oMod (eVar 5) (eVar 7)) (eC (.int 0)))) (tBl (eOp cEq (eOp oMul (eSl (eVar 6) pNo (pAt (eVar 7))) (eOp oDiv (eVar 5) (eVar 7))) (eVar 6)))) (sSeq (sRet (eB bTuple (aCons (eSl (eVar 6) pNo (pAt (eVar 7))) aNil))) sNil) sNil) sNil)) (sSeq (sRet (eB bTuple (aCons (eVar 6) aNil))) sNil))))))
theorem sc_poly_rests : FnScope ["poly", "by", "own", "number", "told", "long", "row", "short", "place"] ["poly", "by"] (defScope (top 46)) := ⟨rfl, rfl, rfl, by decide +kernel, rfl, by decide +kernel, by decide +kernel⟩
theorem b_poly_rests {fd : FuncData} {ad : Addr} {kws : List (PySem.Str × V)} (F : FunD K "poly_rests" "poly_rests" (defArgs (top 46)) (defBody (top 46)) (defScope (top 46)) [] kws ad fd) : Binds K fd ["poly", "by"] [] := F.bindsN fun _ _ _ _ _ _ us hl => match us, hl with | [_, _], _ => rfl
theorem f_poly_rests (c : Cn fa fn tu K mg) : FunD K "poly_rests" "poly_rests" (defArgs (top 46)) (defBody (top 46)) (defScope (top 46)) [] [] (He.ga K "poly_rests") (fdOf K (He.ga K "poly_rests")) := c.f 32 (d := d_poly_rests) rfl
theorem k_poly_rests (c : Cn fa fn tu K mg) (Γ : Gam) (h_sure_within : FO P w K mg base k "sure_within" ["thing", "least", "most"] (Γ c_sure_within)) (h_sure_poly : FO P w K mg base k "sure_poly" ["value"] (Γ c_sure_poly)) (h_sure_whole : FO P w K mg base k "sure_whole" ["poly"] (Γ c_sure_whole)) (h_long_round : FO P w K mg base k "long_round" ["by", "degree"] (Γ c_long_round)) (h_value_in : FO P w K mg base k "value_in" ["poly", "number"] (Γ c_value_in)) : FO P w K mg base (k + 1) "poly_rests" ["poly", "by"] (runDef 2 9 (e_poly_rests Γ)) := by
  refine fok (N := ["poly", "by", "own", "number", "told", "long", "row", "short", "place"]) (fA K) (e_poly_rests Γ) (f_poly_rests c) sc_poly_rests (by decide) ?_
  intro cdv A outer s0 H E ta hr hf
  exact (xss_cons (xasg (xtup (xa_cons (xcall Γ c_sure_poly h_sure_poly hr rfl (c.g 14 rfl) (f_sure_poly c).kp (b_sure_poly (f_sure_poly c)) (xa_cons (xv 0 rfl (.inl rfl)) xa_nil)) (xa_cons (xcall Γ c_sure_within h_sure_within hr rfl (c.g 2 rfl) (f_sure_within c).kp (b_sure_within (f_sure_within c)) (xa_cons (xv 1 rfl (.inl rfl)) (xa_cons (xi 1) (xa_cons (xgi c 75 rfl rfl rfl) xa_nil)))) xa_nil))) (xg_tup (xgs_cons (xg_name 2 sc_poly_rests.nd rfl (.inl rfl)) (xgs_cons (xg_name 3 sc_poly_rests.nd rfl (.inr rfl)) xgs_nil)))) (xss_cons (xset 4 sc_poly_rests.nd rfl (.inr rfl) (xcall Γ c_sure_whole h_sure_whole hr rfl (c.g 30 rfl) (f_sure_whole c).kp (b_sure_whole (f_sure_whole c)) (xa_cons (xv 2 rfl (.inl rfl)) xa_nil))) (xss_cons (xset 5 sc_poly_rests.nd rfl (.inl rfl) (xcall Γ c_long_round h_long_round hr rfl (c.g 31 rfl) (f_long_round c).kp (b_long_round (f_long_round c)) (xa_cons (xv 3 rfl (.inr (.inl rfl))) (xa_cons (xopE os_sub (xOE (xbf RE.back cs_len rfl (c.b 52 rfl) (by decide +kernel) (xa_consO (xOE (xv 4 rfl (.inr (.inl rfl)))) xa_nil))) (xOE (xi 1))) xa_nil)))) (xss_cons (xsetLcF 6 [8] sc_poly_rests.nd rfl rfl (sw_true rfl rfl rfl rfl) (xiG (xi_range1 rfl (c.b 60 rfl) (xa_consO (xOE (xv 5 rfl (.inl rfl))) xa_nil))) (blkOk_by (own := [("place", 8)]) (by kernel_rfl)) rfl (fun _ _ _ _ _ => (xg_name 8 sc_poly_rests.nd rfl (.inl rfl))) (fun _ _ _ _ _ => xts_nil) (fun _ _ _ _ _ => (xopE os_mod (xOE (xix (xOE (xcall Γ c_value_in h_value_in hr rfl (c.g 18 rfl) (f_value_in c).kp (b_value_in (f_value_in c)) (xa_cons (xv 4 rfl (.inr (.inl rfl))) (xa_cons (xv 8 rfl (.inl rfl)) xa_nil)))) (xOE (xi 0)))) (xOE (xv 3 rfl (.inr (.inl rfl))))))) (xss_cons (xfor PassesOwn.never (xi_range2 rfl (c.b 60 rfl) (xa_consO (xOE (xi 1)) (xa_consO (xOE (xopE os_add (xOE (xv 5 rfl (.inl rfl))) (xOE (xi 1)))) xa_nil))) (xg_name 7 sc_poly_rests.nd rfl (.inl rfl)) (xss_cons (xif' (PW.pt (xw_and (xt_cmp os_eq (xOE (xopE os_mod (xOE (xv 5 rfl (.inl rfl))) (xOE (xv 7 rfl (.inl rfl))))) (xOE (xi 0))) (xw_and1 (xt_cmp os_eq (xOE (xopE os_mul (xOE (xsl (xOE (xv 6 rfl (.inl rfl))) xp_no (xp_at (xOE (xv 7 rfl (.inl rfl)))))) (xOE (xopE os_div (xOE (xv 5 rfl (.inl rfl))) (xOE (xv 7 rfl (.inl rfl))))))) (xOE (xv 6 rfl (.inl rfl))))))) (xss_cons (xret (xbt RE.back cs_tuple rfl (c.b 58 rfl) (by decide +kernel) (xa_consO (xOE (xsl (xOE (xv 6 rfl (.inl rfl))) xp_no (xp_at (xOE (xv 7 rfl (.inl rfl)))))) xa_nil))) xss_nil) xss_nil) xss_nil)) (xss_cons (xret (xbt RE.back cs_tuple rfl (c.b 58 rfl) (by decide +kernel) (xa_consO (xOE (xv 6 rfl (.inl rfl))) xa_nil))) xss_nil))))))
/-! _law_box -/
def e__law_box (Γ : Gam) : Nf.S := (sSeq (sAsg (Nf.gName 2) (eIf (tBl (eOp cLt (eVar 1) (eB bLen (aCons (eVar 0) aNil)))) (eOp oIx (eVar 0) (eVar 1)) (eC (.int 0)))) (sSeq (sRet (eLst (aCons (eOp oMul (eB bAbs (aCons (eVar 2) aNil)) (eB bInt (aCons (eOp cGe (eB bAbs (aCons (eVar 2) aNil)) (eOp oPow (eC (.int 10)) (eC (.int 18)))) aNil))) (aCons (eOp oAdd (eOp oAdd (eOp oMod (eB bInt (aCons (eVar 2) aNil)) (eC (.int 2305843009213693951))) (eOp oMul (eC (.int 39373)) (eVar 1))) (eC (.int 25155044))) (aCons (eC (.int 0)) aNil))))) sNil))
theorem sc__law_box : FnScope ["script", "k", "bit_so"] ["script", "k"] (defScope (top 48)) := ⟨rfl, rfl, rfl, by decide +kernel, rfl, by decide +kernel, by decide +kernel⟩
theorem b__law_box {fd : FuncData} {ad : Addr} {kws : List (PySem.Str × V)} (F : FunD K "_law_box" "_law_box" (defArgs (top 48)) (defBody (top 48)) (defScope (top 48)) [] kws ad fd) : Binds K fd ["script", "k"] [] := F.bindsN fun _ _ _ _ _ _ us hl => match us, hl with | [_, _], _ => rfl
theorem f__law_box (c : Cn fa fn tu K mg) : FunD K "_law_box" "_law_box" (defArgs (top 48)) (defBody (top 48)) (defScope (top 48)) [] [] (He.ga K "_law_box") (fdOf K (He.ga K "_law_box")) := c.f 33 (d := d__law_box) rfl
theorem k__law_box (c : Cn fa fn tu K mg) (Γ : Gam) : FO P w K mg base (k + 1) "_law_box" ["script", "k"] (runDef 2 3 (e__law_box Γ)) := by
  refine fok (N := ["script", "k", "bit_so"]) (fA K) (e__law_box Γ) (f__law_box c) sc__law_box (by decide) ?_
  intro cdv A outer s0 H E ta hr hf
  exact (xss_cons (xset 2 sc__law_box.nd rfl (.inl rfl) (xif (xt_cmp os_lt (xOE (xv 1 rfl (.inl rfl))) (xOE (xbf RE.back cs_len rfl (c.b 52 rfl) (by decide +kernel) (xa_consO (xOE (xv 0 rfl (.inl rfl))) xa_nil)))) (xix (xOE (xv 0 rfl (.inl rfl))) (xOE (xv 1 rfl (.inl rfl)))) (xi 0))) (xss_cons (xret (xEN (xlst (xa_cons (xopE os_mul (xOE (xbf RE.back cs_abs rfl (c.b 64 rfl) (by decide +kernel) (xa_consO (xOE (xv 2 rfl (.inl rfl))) xa_nil))) (xOE (xbt RE.back cs_int rfl (c.b 56 rfl) (by decide +kernel) (xa_consO (xOE (xcmp os_ge (xOE (xbf RE.back cs_abs rfl (c.b 64 rfl) (by decide +kernel) (xa_consO (xOE (xv 2 rfl (.inl rfl))) xa_nil))) (xOE (xopE os_pow (xOE (xi 10)) (xOE (xi 18)))))) xa_nil)))) (xa_cons (xopE os_add (xOE (xopE os_add (xOE (xopE os_mod (xOE (xbt RE.back cs_int rfl (c.b 56 rfl) (by decide +kernel) (xa_consO (xOE (xv 2 rfl (.inl rfl))) xa_nil))) (xOE (xi 2305843009213693951)))) (xOE (xopE os_mul (xOE (xi 39373)) (xOE (xv 1 rfl (.inl rfl))))))) (xOE (xi 25155044))) (xa_cons (xi 0) xa_nil)))))) xss_nil))
/-! _law_take -/
def e__law_take (Γ : Gam) : Nf.S := (sSeq (sIf (tBl (eOp cGt (eTin 0 0) (eC (.int 0)))) (sSeq (sAsg (Nf.gName 2) (eOp oMod (eB bInt (aCons (eTin 0 0) aNil)) (eVar 1))) (sSeq (sTin 0 0 (eOp oDiv (eTin 0 0) (eVar 1))) (sSeq (sRet (eVar 2)) sNil))) sNil) (sSeq (sTin 0 2 (eOp oAdd (eTin 0 2) (eC (.int 1)))) (sSeq (sAsg (Nf.gName 3) (eOp oMod (eB bInt (aCons (eOp oMul (eOp oAdd (eTin 0 1) (eOp oMul (eC (.int 48271)) (eTin 0 2))) (eOp oAdd (eC (.int 39373)) (eTin 0 2))) aNil)) (eC (.int 2147483647)))) (sSeq (sAsg (Nf.gName 4) (eOp oAdd (eOp oMod (eB bInt (aCons (eVar 3) aNil)) (eC (.int 40009))) (eC (.int 7)))) (sSeq (sAsg (Nf.gName 5) (eOp oMod (eB bInt (aCons (eOp oMul (eOp oAdd (eOp oAdd (eVar 3) (eTin 0 2)) (eOp oDiv (eTin 0 1) (eC (.int 1000003)))) (eVar 4)) aNil)) (eC (.int 2147483629)))) (sSeq (sRet (eOp oMod (eB bInt (aCons (eOp oDiv (eOp oMod (eB bInt (aCons (eOp oAdd (eOp oMul (eVar 5) (eC (.int 48271))) (eVar 3)) aNil)) (eC (.int 2147483587))) (eC (.int 64))) aNil)) (eVar 1))) sNil))))))
theorem sc__law_take : FnScope ["tin", "below_so", "drawn_so", "once_so", "wide_so", "twice_so"] ["tin", "below_so"] (defScope (top 49)) := ⟨rfl, rfl, rfl, by decide +kernel, rfl, by decide +kernel, by decide +kernel⟩
theorem b__law_take {fd : FuncData} {ad : Addr} {kws : List (PySem.Str × V)} (F : FunD K "_law_take" "_law_take" (defArgs (top 49)) (defBody (top 49)) (defScope (top 49)) [] kws ad fd) : Binds K fd ["tin", "below_so"] [] := F.bindsN fun _ _ _ _ _ _ us hl => match us, hl with | [_, _], _ => rfl
theorem f__law_take (c : Cn fa fn tu K mg) : FunD K "_law_take" "_law_take" (defArgs (top 49)) (defBody (top 49)) (defScope (top 49)) [] [] (He.ga K "_law_take") (fdOf K (He.ga K "_law_take")) := c.f 34 (d := d__law_take) rfl
theorem k__law_take (c : Cn fa fn tu K mg) (Γ : Gam) : FO P w K mg base (k + 1) "_law_take" ["tin", "below_so"] (runDef 2 6 (e__law_take Γ)) := by
  refine fok (N := ["tin", "below_so", "drawn_so", "once_so", "wide_so", "twice_so"]) (fA K) (e__law_take Γ) (f__law_take c) sc__law_take (by decide) ?_
  intro cdv A outer s0 H E ta hr hf
  exact (xss_cons (xif' (xt_cmp os_gt (xOE (xtin 0 0 rfl (.inl rfl))) (xOE (xi 0))) (xss_cons (xset 2 sc__law_take.nd rfl (.inl rfl) (xopE os_mod (xOE (xbt RE.back cs_int rfl (c.b 56 rfl) (by decide +kernel) (xa_consO (xOE (xtin 0 0 rfl (.inl rfl))) xa_nil))) (xOE (xv 1 rfl (.inl rfl))))) (xss_cons (xtinSet 0 0 (xopE os_div (xOE (xtin 0 0 rfl (.inl rfl))) (xOE (xv 1 rfl (.inl rfl)))) rfl (.inl rfl)) (xss_cons (xret (xv 2 rfl (.inl rfl))) xss_nil))) xss_nil) (xss_cons (xtinSet 0 2 (xopE os_add (xOE (xtin 0 2 rfl (.inl rfl))) (xOE (xi 1))) rfl (.inl rfl)) (xss_cons (xset 3 sc__law_take.nd rfl (.inl rfl) (xopE os_mod (xOE (xbt RE.back cs_int rfl (c.b 56 rfl) (by decide +kernel) (xa_consO (xOE (xopE os_mul (xOE (xopE os_add (xOE (xtin 0 1 rfl (.inl rfl))) (xOE (xopE os_mul (xOE (xi 48271)) (xOE (xtin 0 2 rfl (.inl rfl))))))) (xOE (xopE os_add (xOE (xi 39373)) (xOE (xtin 0 2 rfl (.inl rfl))))))) xa_nil))) (xOE (xi 2147483647)))) (xss_cons (xset 4 sc__law_take.nd rfl (.inl rfl) (xopE os_add (xOE (xopE os_mod (xOE (xbt RE.back cs_int rfl (c.b 56 rfl) (by decide +kernel) (xa_consO (xOE (xv 3 rfl (.inl rfl))) xa_nil))) (xOE (xi 40009)))) (xOE (xi 7)))) (xss_cons (xset 5 sc__law_take.nd rfl (.inl rfl) (xopE os_mod (xOE (xbt RE.back cs_int rfl (c.b 56 rfl) (by decide +kernel) (xa_consO (xOE (xopE os_mul (xOE (xopE os_add (xOE (xopE os_add (xOE (xv 3 rfl (.inl rfl))) (xOE (xtin 0 2 rfl (.inl rfl))))) (xOE (xopE os_div (xOE (xtin 0 1 rfl (.inl rfl))) (xOE (xi 1000003)))))) (xOE (xv 4 rfl (.inl rfl))))) xa_nil))) (xOE (xi 2147483629)))) (xss_cons (xret (xopE os_mod (xOE (xbt RE.back cs_int rfl (c.b 56 rfl) (by decide +kernel) (xa_consO (xOE (xopE os_div (xOE (xopE os_mod (xOE (xbt RE.back cs_int rfl (c.b 56 rfl) (by decide +kernel) (xa_consO (xOE (xopE os_add (xOE (xopE os_mul (xOE (xv 5 rfl (.inl rfl))) (xOE (xi 48271)))) (xOE (xv 3 rfl (.inl rfl))))) xa_nil))) (xOE (xi 2147483587)))) (xOE (xi 64)))) xa_nil))) (xOE (xv 1 rfl (.inl rfl))))) xss_nil))))))
/-! _law_cells -/
def e__law_cells (Γ : Gam) : Nf.S := (sSeq (sAsgO 2 (eOr (eB bList (aCons (eSl (eVar 0) pNo (pAt (eVar 1))) aNil)) (eLst (aCons (eC (.int 0)) aNil)))) (sSeq (sFor (iEnum (aCons (eSl (eVar 0) (pAt (eVar 1)) (pAt (eC (.int 63)))) aNil)) (Nf.gTup [(Nf.gName 3), (Nf.gName 4)]) (sSeq (sAsg (Nf.gName 5) (eOp oMod (eB bInt (aCons (eVar 3) aNil)) (eVar 1))) (sSeq (sSet 2 (eVar 5) (eOp oAdd (eOp oIx (eOwn 2) (eVar 5)) (eOp oMul (eVar 4) (eOp oAdd (eVar 3) (eC (.int 2)))))) sNil))) (sSeq (sRet (eVar 2)) sNil)))
theorem sc__law_cells : FnScope ["script", "most_so", "cells_so", "k", "bit_so", "at_so"] ["script", "most_so"] (defScope (top 50)) := ⟨rfl, rfl, rfl, by decide +kernel, rfl, by decide +kernel, by decide +kernel⟩
theorem b__law_cells {fd : FuncData} {ad : Addr} {kws : List (PySem.Str × V)} (F : FunD K "_law_cells" "_law_cells" (defArgs (top 50)) (defBody (top 50)) (defScope (top 50)) [] kws ad fd) : Binds K fd ["script", "most_so"] [] := F.bindsN fun _ _ _ _ _ _ us hl => match us, hl with | [_, _], _ => rfl
theorem f__law_cells (c : Cn fa fn tu K mg) : FunD K "_law_cells" "_law_cells" (defArgs (top 50)) (defBody (top 50)) (defScope (top 50)) [] [] (He.ga K "_law_cells") (fdOf K (He.ga K "_law_cells")) := c.f 35 (d := d__law_cells) rfl
theorem k__law_cells (c : Cn fa fn tu K mg) (Γ : Gam) : FO P w K mg base (k + 1) "_law_cells" ["script", "most_so"] (runDef 2 6 (e__law_cells Γ)) := by
  refine fok (N := ["script", "most_so", "cells_so", "k", "bit_so", "at_so"]) (fA K) (e__law_cells Γ) (f__law_cells c) sc__law_cells (by decide) ?_
  intro cdv A outer s0 H E ta hr hf
  exact (xss_cons (xsetO 2 sc__law_cells.nd rfl (.inl rfl) (xorN (xbt RN.back cs_list rfl (c.b 59 rfl) (by decide +kernel) (xa_consO (xOE (xsl (xOE (xv 0 rfl (.inl rfl))) xp_no (xp_at (xOE (xv 1 rfl (.inl rfl)))))) xa_nil)) (xoneN (xlst (xa_cons (xi 0) xa_nil))))) (xss_cons (xfor PassesOwn.never (xi_enum rfl (c.b 68 rfl) (xa_cons (xsl (xOE (xv 0 rfl (.inl rfl))) (xp_at (xOE (xv 1 rfl (.inl rfl)))) (xp_at (xOE (xi 63)))) xa_nil)) (xg_tup (xgs_cons (xg_name 3 sc__law_cells.nd rfl (.inl rfl)) (xgs_cons (xg_name 4 sc__law_cells.nd rfl (.inl rfl)) xgs_nil))) (xss_cons (xset 5 sc__law_cells.nd rfl (.inl rfl) (xopE os_mod (xOE (xbt RE.back cs_int rfl (c.b 56 rfl) (by decide +kernel) (xa_consO (xOE (xv 3 rfl (.inl rfl))) xa_nil))) (xOE (xv 1 rfl (.inl rfl))))) (xss_cons (xsetIx 2 (xopE os_add (xOE (xix (xo 2 rfl (.inl rfl)) (xOE (xv 5 rfl (.inl rfl))))) (xOE (xopE os_mul (xOE (xv 4 rfl (.inl rfl))) (xOE (xopE os_add (xOE (xv 3 rfl (.inl rfl))) (xOE (xi 2))))))) (xOE (xv 5 rfl (.inl rfl))) rfl (.inl rfl)) xss_nil))) (xss_cons (xret (xv 2 rfl (.inl rfl))) xss_nil)))
/-! _law_of -/
def e__law_of (Γ : Gam) : Nf.S := (sSeq (sRet (eOp oIx (eVar 1) (eCall Γ c__law_take (aCons (eVar 0) (aCons (eB bLen (aCons (eVar 1) aNil)) aNil))))) sNil)
theorem sc__law_of : FnScope ["tin", "goods_so"] ["tin", "goods_so"] (defScope (top 51)) := ⟨rfl, rfl, rfl, by decide +kernel, rfl, by decide +kernel, by decide +kernel⟩
theorem b__law_of {fd : FuncData} {ad : Addr} {kws : List (PySem.Str × V)} (F : FunD K "_law_of" "_law_of" (defArgs (top 51)) (defBody (top 51)) (defScope (top 51)) [] kws ad fd) : Binds K fd ["tin", "goods_so"] [] := F.bindsN fun _ _ _ _ _ _ us hl => match us, hl with | [_, _], _ => rfl
theorem f__law_of (c : Cn fa fn tu K mg) : FunD K "_law_of" "_law_of" (defArgs (top 51)) (defBody (top 51)) (defScope (top 51)) [] [] (He.ga K "_law_of") (fdOf K (He.ga K "_law_of")) := c.f 36 (d := d__law_of) rfl
theorem k__law_of (c : Cn fa fn tu K mg) (Γ : Gam) (h__law_take : FO P w K mg base k "_law_take" ["tin", "below_so"] (Γ c__law_take)) : FO P w K mg base (k + 1) "_law_of" ["tin", "goods_so"] (runDef 2 2 (e__law_of Γ)) := by
  refine fok (N := ["tin", "goods_so"]) (fA K) (e__law_of Γ) (f__law_of c) sc__law_of (by decide) ?_
  intro cdv A outer s0 H E ta hr hf
  exact (xss_cons (xret (xix (xOE (xv 1 rfl (.inl rfl))) (xOE (xcall Γ c__law_take h__law_take hr rfl (c.g 34 rfl) (f__law_take c).kp (b__law_take (f__law_take c)) (xa_cons (xv 0 rfl (.inl rfl)) (xa_cons (xbf RE.back cs_len rfl (c.b 52 rfl) (by decide +kernel) (xa_consO (xOE (xv 1 rfl (.inl rfl))) xa_nil)) xa_nil)))))) xss_nil)
/-! _law_same -/
def e__law_same (Γ : Gam) : Nf.S := (sSeq (sIf (tTru (eUn (uIsa2 .list .tuple) (eVar 1))) (sSeq (sIf (Nf.tOr (tBl (eOp cNe (eUn (uIsa .list) (eVar 0)) (eUn (uIsa .list) (eVar 1)))) (tBl (eOp cNe (eUn (uIsa .tuple) (eVar 0)) (eUn (uIsa .tuple) (eVar 1))))) (sSeq (sRet (eC (.bl false))) sNil) sNil) (sSeq (sRet (eAnd (eOp cEq (eB bLen (aCons (eVar 0) aNil)) (eB bLen (aCons (eVar 1) aNil))) (eB bAll (aCons (eComp (iZip (aCons (eVar 0) (aCons (eVar 1) aNil))) (Nf.gTup [(Nf.gName 2), (Nf.gName 3)]) [2, 3] Nf.tYes (eCall Γ c__law_same (aCons (eVar 2) (aCons (eVar 3) aNil)))) aNil)))) sNil)) sNil) (sSeq (sIf (tBl (eOp oIsN (eVar 1) (eC .non))) (sSeq (sRet (eOp oIsN (eVar 0) (eC .non))) sNil) sNil) (sSeq (sIf (tTru (eUn (uIsa2 .bool .str) (eVar 1))) (sSeq (sRet (eAnd (eOp cEq (eUn (uIsa .bool) (eVar 0)) (eUn (uIsa .bool) (eVar 1))) (eAnd (eOp cEq (eUn (uIsa .str) (eVar 0)) (eUn (uIsa .str) (eVar 1))) (eOp cEq (eVar 0) (eVar 1))))) sNil) sNil) (sSeq (sRet (eAnd (eUn (uIsa .int) (eVar 0)) (eAnd (eNot (eUn (uIsa .bool) (eVar 0))) (eOp cEq (eVar 0) (eVar 1))))) sNil))))
theorem sc__law_same : FnScope ["got", "due", "mine", "its"] ["got", "due"] (defScope (top 52)) := ⟨rfl, rfl, rfl, by decide +kernel, rfl, by decide +kernel, by decide +kernel⟩
theorem b__law_same {fd : FuncData} {ad : Addr} {kws : List (PySem.Str × V)} (F : FunD K "_law_same" "_law_same" (defArgs (top 52)) (defBody (top 52)) (defScope (top 52)) [] kws ad fd) : Binds K fd ["got", "due"] [] := F.bindsN fun _ _ _ _ _ _ us hl => match us, hl with | [_, _], _ => rfl
theorem f__law_same (c : Cn fa fn tu K mg) : FunD K "_law_same" "_law_same" (defArgs (top 52)) (defBody (top 52)) (defScope (top 52)) [] [] (He.ga K "_law_same") (fdOf K (He.ga K "_law_same")) := c.f 37 (d := d__law_same) rfl
theorem k__law_same (c : Cn fa fn tu K mg) (Γ : Gam) (h__law_same : FO P w K mg base k "_law_same" ["got", "due"] (Γ c__law_same)) : FO P w K mg base (k + 1) "_law_same" ["got", "due"] (runDef 2 4 (e__law_same Γ)) := by
  refine fok (N := ["got", "due", "mine", "its"]) (fA K) (e__law_same Γ) (f__law_same c) sc__law_same (by decide) ?_
  intro cdv A outer s0 H E ta hr hf
  exact (xss_cons (xif' (xt_tru (xOE (xisa2T .list .tuple rfl rfl rfl (c.b 55 rfl) rfl (c.b 59 rfl) rfl (c.b 58 rfl) (xOE (xv 1 rfl (.inl rfl)))))) (xss_cons (xif' (PW.pt (xw_or (xt_cmp os_ne (xOE (xisaT .list rfl rfl (c.b 55 rfl) rfl (c.b 59 rfl) (xOE (xv 0 rfl (.inl rfl))))) (xOE (xisaT .list rfl rfl (c.b 55 rfl) rfl (c.b 59 rfl) (xOE (xv 1 rfl (.inl rfl)))))) (xw_or1 (xt_cmp os_ne (xOE (xisaT .tuple rfl rfl (c.b 55 rfl) rfl (c.b 58 rfl) (xOE (xv 0 rfl (.inl rfl))))) (xOE (xisaT .tuple rfl rfl (c.b 55 rfl) rfl (c.b 58 rfl) (xOE (xv 1 rfl (.inl rfl))))))))) (xss_cons (xret (xb false)) xss_nil) xss_nil) (xss_cons (xret (xand (xcmp os_eq (xOE (xbf RE.back cs_len rfl (c.b 52 rfl) (by decide +kernel) (xa_consO (xOE (xv 0 rfl (.inl rfl))) xa_nil))) (xOE (xbf RE.back cs_len rfl (c.b 52 rfl) (by decide +kernel) (xa_consO (xOE (xv 1 rfl (.inl rfl))) xa_nil)))) (xoneN (xbf RE.back cs_all rfl (c.b 53 rfl) (by decide +kernel) (xa_consO (xOE (xEN (xcomp [2, 3] sc__law_same.nd (xiG (xi_zip rfl (c.b 61 rfl) (xa_cons (xv 0 rfl (.inl rfl)) (xa_cons (xv 1 rfl (.inl rfl)) xa_nil)))) (blkOk_by (own := [("mine", 2), ("its", 3)]) (by kernel_rfl)) rfl (fun _ _ _ _ _ => (xg_tup (xgs_cons (xg_name 2 sc__law_same.nd rfl (.inl rfl)) (xgs_cons (xg_name 3 sc__law_same.nd rfl (.inl rfl)) xgs_nil)))) (fun _ _ _ _ _ => xts_nil) (fun _ _ _ _ _ => (xcall Γ c__law_same h__law_same hr rfl (c.g 37 rfl) (f__law_same c).kp (b__law_same (f__law_same c)) (xa_cons (xv 2 rfl (.inl rfl)) (xa_cons (xv 3 rfl (.inl rfl)) xa_nil))))))) xa_nil))))) xss_nil)) xss_nil) (xss_cons (xif' (xt_cmp os_isN (xOE (xv 1 rfl (.inl rfl))) (xOE xn)) (xss_cons (xret (xcmp os_isN (xOE (xv 0 rfl (.inl rfl))) (xOE xn))) xss_nil) xss_nil) (xss_cons (xif' (xt_tru (xOE (xisa2T .bool .str rfl rfl rfl (c.b 55 rfl) rfl (c.b 57 rfl) rfl (c.b 71 rfl) (xOE (xv 1 rfl (.inl rfl)))))) (xss_cons (xret (xand (xcmp os_eq (xOE (xisaT .bool rfl rfl (c.b 55 rfl) rfl (c.b 57 rfl) (xOE (xv 0 rfl (.inl rfl))))) (xOE (xisaT .bool rfl rfl (c.b 55 rfl) rfl (c.b 57 rfl) (xOE (xv 1 rfl (.inl rfl)))))) (xand (xcmp os_eq (xOE (xisaT .str rfl rfl (c.b 55 rfl) rfl (c.b 71 rfl) (xOE (xv 0 rfl (.inl rfl))))) (xOE (xisaT .str rfl rfl (c.b 55 rfl) rfl (c.b 71 rfl) (xOE (xv 1 rfl (.inl rfl)))))) (xoneN (xcmp os_eq (xOE (xv 0 rfl (.inl rfl))) (xOE (xv 1 rfl (.inl rfl)))))))) xss_nil) xss_nil) (xss_cons (xret (xand (xisaT .int rfl rfl (c.b 55 rfl) rfl (c.b 56 rfl) (xOE (xv 0 rfl (.inl rfl)))) (xand (xnot (xOE (xisaT .bool rfl rfl (c.b 55 rfl) rfl (c.b 57 rfl) (xOE (xv 0 rfl (.inl rfl)))))) (xoneN (xcmp os_eq (xOE (xv 0 rfl (.inl rfl))) (xOE (xv 1 rfl (.inl rfl)))))))) xss_nil))))
/-! _law_gcd -/
def e__law_gcd (Γ : Gam) : Nf.S := (sSeq (sPar [(0, false), (1, false)] (aCons (eB bAbs (aCons (eVar 0) aNil)) (aCons (eB bAbs (aCons (eVar 1) aNil)) aNil))) (sSeq (sFor (iRange1 (aCons (eC (.int 9000)) aNil)) (Nf.gName 2) (sSeq (sIf (tBl (eOp cEq (eVar 1) (eC (.int 0)))) (sSeq sBreak sNil) sNil) (sSeq (sPar [(0, false), (1, false)] (aCons (eVar 1) (aCons (eOp oMod (eVar 0) (eVar 1)) aNil))) sNil))) (sSeq (sRet (eVar 0)) sNil)))
theorem sc__law_gcd : FnScope ["one", "two", "lap"] ["one", "two"] (defScope (top 53)) := ⟨rfl, rfl, rfl, by decide +kernel, rfl, by decide +kernel, by decide +kernel⟩
theorem b__law_gcd {fd : FuncData} {ad : Addr} {kws : List (PySem.Str × V)} (F : FunD K "_law_gcd" "_law_gcd" (defArgs (top 53)) (defBody (top 53)) (defScope (top 53)) [] kws ad fd) : Binds K fd ["one", "two"] [] := F.bindsN fun _ _ _ _ _ _ us hl => match us, hl with | [_, _], _ => rfl
theorem f__law_gcd (c : Cn fa fn tu K mg) : FunD K "_law_gcd" "_law_gcd" (defArgs (top 53)) (defBody (top 53)) (defScope (top 53)) [] [] (He.ga K "_law_gcd") (fdOf K (He.ga K "_law_gcd")) := c.f 38 (d := d__law_gcd) rfl
theorem k__law_gcd (c : Cn fa fn tu K mg) (Γ : Gam) : FO P w K mg base (k + 1) "_law_gcd" ["one", "two"] (runDef 2 3 (e__law_gcd Γ)) := by
  refine fok (N := ["one", "two", "lap"]) (fA K) (e__law_gcd Γ) (f__law_gcd c) sc__law_gcd (by decide) ?_
  intro cdv A outer s0 H E ta hr hf
  exact (xss_cons (xpar2 (b1 := false) (b2 := false) sc__law_gcd.nd (i := 0)  (j := 1) rfl rfl (by decide) rfl rfl (xm_e (xbf RE.back cs_abs rfl (c.b 64 rfl) (by decide +kernel) (xa_consO (xOE (xv 0 rfl (.inl rfl))) xa_nil)) (xm_e (xbf RE.back cs_abs rfl (c.b 64 rfl) (by decide +kernel) (xa_consO (xOE (xv 1 rfl (.inl rfl))) xa_nil)) xm_nil)) rfl) (xss_cons (xfor PassesOwn.never (xi_range1 rfl (c.b 60 rfl) (xa_consO (xOE (xi 9000)) xa_nil)) (xg_name 2 sc__law_gcd.nd rfl (.inl rfl)) (xss_cons (xif' (xt_cmp os_eq (xOE (xv 1 rfl (.inl rfl))) (xOE (xi 0))) (xss_cons xbreak xss_nil) xss_nil) (xss_cons (xpar2 (b1 := false) (b2 := false) sc__law_gcd.nd (i := 0)  (j := 1) rfl rfl (by decide) rfl rfl (xm_e (xv 1 rfl (.inl rfl)) (xm_e (xopE os_mod (xOE (xv 0 rfl (.inl rfl))) (xOE (xv 1 rfl (.inl rfl)))) xm_nil)) rfl) xss_nil))) (xss_cons (xret (xv 0 rfl (.inl rfl))) xss_nil)))
/-! _law_slim -/
def e__law_slim (Γ : Gam) : Nf.S := (sSeq (sAsg (Nf.gName 2) (eCall Γ c__law_gcd (aCons (eVar 0) (aCons (eVar 1) aNil)))) (sSeq (sRet (eIf (tBl (eOp cGt (eVar 1) (eC (.int 0)))) (eTup (aCons (eOp oDiv (eVar 0) (eVar 2)) (aCons (eOp oDiv (eVar 1) (eVar 2)) aNil))) (eTup (aCons (eOp oSub (eC (.int 0)) (eOp oDiv (eVar 0) (eVar 2))) (aCons (eOp oSub (eC (.int 0)) (eOp oDiv (eVar 1) (eVar 2))) aNil))))) sNil))
theorem sc__law_slim : FnScope ["over", "under", "both_so"] ["over", "under"] (defScope (top 54)) := ⟨rfl, rfl, rfl, by decide +kernel, rfl, by decide +kernel, by decide +kernel⟩
theorem b__law_slim {fd : FuncData} {ad : Addr} {kws : List (PySem.Str × V)} (F : FunD K "_law_slim" "_law_slim" (defArgs (top 54)) (defBody (top 54)) (defScope (top 54)) [] kws ad fd) : Binds K fd ["over", "under"] [] := F.bindsN fun _ _ _ _ _ _ us hl => match us, hl with | [_, _], _ => rfl
theorem f__law_slim (c : Cn fa fn tu K mg) : FunD K "_law_slim" "_law_slim" (defArgs (top 54)) (defBody (top 54)) (defScope (top 54)) [] [] (He.ga K "_law_slim") (fdOf K (He.ga K "_law_slim")) := c.f 39 (d := d__law_slim) rfl
theorem k__law_slim (c : Cn fa fn tu K mg) (Γ : Gam) (h__law_gcd : FO P w K mg base k "_law_gcd" ["one", "two"] (Γ c__law_gcd)) : FO P w K mg base (k + 1) "_law_slim" ["over", "under"] (runDef 2 3 (e__law_slim Γ)) := by
  refine fok (N := ["over", "under", "both_so"]) (fA K) (e__law_slim Γ) (f__law_slim c) sc__law_slim (by decide) ?_
  intro cdv A outer s0 H E ta hr hf
  exact (xss_cons (xset 2 sc__law_slim.nd rfl (.inl rfl) (xcall Γ c__law_gcd h__law_gcd hr rfl (c.g 38 rfl) (f__law_gcd c).kp (b__law_gcd (f__law_gcd c)) (xa_cons (xv 0 rfl (.inl rfl)) (xa_cons (xv 1 rfl (.inl rfl)) xa_nil)))) (xss_cons (xret (xif (xt_cmp os_gt (xOE (xv 1 rfl (.inl rfl))) (xOE (xi 0))) (xtup (xa_cons (xopE os_div (xOE (xv 0 rfl (.inl rfl))) (xOE (xv 2 rfl (.inl rfl)))) (xa_cons (xopE os_div (xOE (xv 1 rfl (.inl rfl))) (xOE (xv 2 rfl (.inl rfl)))) xa_nil))) (xtup (xa_cons (xopE os_sub (xOE (xi 0)) (xOE (xopE os_div (xOE (xv 0 rfl (.inl rfl))) (xOE (xv 2 rfl (.inl rfl)))))) (xa_cons (xopE os_sub (xOE (xi 0)) (xOE (xopE os_div (xOE (xv 1 rfl (.inl rfl))) (xOE (xv 2 rfl (.inl rfl)))))) xa_nil))))) xss_nil))
/-! _law_plus -/
def e__law_plus (Γ : Gam) : Nf.S := (sSeq (sRet (eCall Γ c__law_slim (aCons (eOp oAdd (eOp oMul (eOp oIx (eVar 0) (eC (.int 0))) (eOp oIx (eVar 1) (eC (.int 1)))) (eOp oMul (eOp oIx (eVar 1) (eC (.int 0))) (eOp oIx (eVar 0) (eC (.int 1))))) (aCons (eOp oMul (eOp oIx (eVar 0) (eC (.int 1))) (eOp oIx (eVar 1) (eC (.int 1)))) aNil)))) sNil)
theorem sc__law_plus : FnScope ["one", "two"] ["one", "two"] (defScope (top 55)) := ⟨rfl, rfl, rfl, by decide +kernel, rfl, by decide +kernel, by decide +kernel⟩
theorem b__law_plus {fd : FuncData} {ad : Addr} {kws : List (PySem.Str × V)} (F : FunD K "_law_plus" "_law_plus" (defArgs (top 55)) (defBody (top 55)) (defScope (top 55)) [] kws ad fd) : Binds K fd ["one", "two"] [] := F.bindsN fun _ _ _ _ _ _ us hl => match us, hl with | [_, _], _ => rfl
theorem f__law_plus (c : Cn fa fn tu K mg) : FunD K "_law_plus" "_law_plus" (defArgs (top 55)) (defBody (top 55)) (defScope (top 55)) [] [] (He.ga K "_law_plus") (fdOf K (He.ga K "_law_plus")) := c.f 40 (d := d__law_plus) rfl
theorem k__law_plus (c : Cn fa fn tu K mg) (Γ : Gam) (h__law_slim : FO P w K mg base k "_law_slim" ["over", "under"] (Γ c__law_slim)) : FO P w K mg base (k + 1) "_law_plus" ["one", "two"] (runDef 2 2 (e__law_plus Γ)) := by
  refine fok (N := ["one", "two"]) (fA K) (e__law_plus Γ) (f__law_plus c) sc__law_plus (by decide) ?_
  intro cdv A outer s0 H E ta hr hf
  exact (xss_cons (xret (xcall Γ c__law_slim h__law_slim hr rfl (c.g 39 rfl) (f__law_slim c).kp (b__law_slim (f__law_slim c)) (xa_cons (xopE os_add (xOE (xopE os_mul (xOE (xix (xOE (xv 0 rfl (.inl rfl))) (xOE (xi 0)))) (xOE (xix (xOE (xv 1 rfl (.inl rfl))) (xOE (xi 1)))))) (xOE (xopE os_mul (xOE (xix (xOE (xv 1 rfl (.inl rfl))) (xOE (xi 0)))) (xOE (xix (xOE (xv 0 rfl (.inl rfl))) (xOE (xi 1))))))) (xa_cons (xopE os_mul (xOE (xix (xOE (xv 0 rfl (.inl rfl))) (xOE (xi 1)))) (xOE (xix (xOE (xv 1 rfl (.inl rfl))) (xOE (xi 1))))) xa_nil)))) xss_nil)
/-! _law_times -/
def e__law_times (Γ : Gam) : Nf.S := (sSeq (sRet (eCall Γ c__law_slim (aCons (eOp oMul (eOp oIx (eVar 0) (eC (.int 0))) (eOp oIx (eVar 1) (eC (.int 0)))) (aCons (eOp oMul (eOp oIx (eVar 0) (eC (.int 1))) (eOp oIx (eVar 1) (eC (.int 1)))) aNil)))) sNil)
theorem sc__law_times : FnScope ["one", "two"] ["one", "two"] (defScope (top 56)) := ⟨rfl, rfl, rfl, by decide +kernel, rfl, by decide +kernel, by decide +kernel⟩
theorem b__law_times {fd : FuncData} {ad : Addr} {kws : List (PySem.Str × V)} (F : FunD K "_law_times" "_law_times" (defArgs (top 56)) (defBody (top 56)) (defScope (top 56)) [] kws ad fd) : Binds K fd ["one", "two"] [] := F.bindsN fun _ _ _ _ _ _ us hl => match us, hl with | [_, _], _ => rfl
theorem f__law_times (c : Cn fa fn tu K mg) : FunD K "_law_times" "_law_times" (defArgs (top 56)) (defBody (top 56)) (defScope (top 56)) [] [] (He.ga K "_law_times") (fdOf K (He.ga K "_law_times")) := c.f 41 (d := d__law_times) rfl
theorem k__law_times (c : Cn fa fn tu K mg) (Γ : Gam) (h__law_slim : FO P w K mg base k "_law_slim" ["over", "under"] (Γ c__law_slim)) : FO P w K mg base (k + 1) "_law_times" ["one", "two"] (runDef 2 2 (e__law_times Γ)) := by
  refine fok (N := ["one", "two"]) (fA K) (e__law_times Γ) (f__law_times c) sc__law_times (by decide) ?_
  intro cdv A outer s0 H E ta hr hf
  exact (xss_cons (xret (xcall Γ c__law_slim h__law_slim hr rfl (c.g 39 rfl) (f__law_slim c).kp (b__law_slim (f__law_slim c)) (xa_cons (xopE os_mul (xOE (xix (xOE (xv 0 rfl (.inl rfl))) (xOE (xi 0)))) (xOE (xix (xOE (xv 1 rfl (.inl rfl))) (xOE (xi 0))))) (xa_cons (xopE os_mul (xOE (xix (xOE (xv 0 rfl (.inl rfl))) (xOE (xi 1)))) (xOE (xix (xOE (xv 1 rfl (.inl rfl))) (xOE (xi 1))))) xa_nil)))) xss_nil)
/-! _law_thin -/
def e__law_thin (Γ : Gam) : Nf.S := (sSeq (sAsgO 1 (eB bList (aCons (eVar 0) aNil))) (sSeq (sFor (iRange1 (aCons (eB bLen (aCons (eVar 0) aNil)) aNil)) (Nf.gName 2) (sSeq (sIf (tBl (eOp cNe (eOp oIx (eOwn 1) (eUn uNeg (eC (.int 1)))) (eTup (aCons (eC (.int 0)) (aCons (eC (.int 1)) aNil))))) (sSeq sBreak sNil) sNil) (sSeq (sPop 1) sNil))) (sSeq (sRet (eB bTuple (aCons (eVar 1) aNil))) sNil)))
theorem sc__law_thin : FnScope ["row_so", "found", "lap"] ["row_so"] (defScope (top 57)) := ⟨rfl, rfl, rfl, by decide +kernel, rfl, by decide +kernel, by decide +kernel⟩
theorem b__law_thin {fd : FuncData} {ad : Addr} {kws : List (PySem.Str × V)} (F : FunD K "_law_thin" "_law_thin" (defArgs (top 57)) (defBody (top 57)) (defScope (top 57)) [] kws ad fd) : Binds K fd ["row_so"] [] := F.bindsN fun _ _ _ _ _ _ us hl => match us, hl with | [_], _ => rfl
theorem f__law_thin (c : Cn fa fn tu K mg) : FunD K "_law_thin" "_law_thin" (defArgs (top 57)) (defBody (top 57)) (defScope (top 57)) [] [] (He.ga K "_law_thin") (fdOf K (He.ga K "_law_thin")) := c.f 42 (d := d__law_thin) rfl
theorem k__law_thin (c : Cn fa fn tu K mg) (Γ : Gam) : FO P w K mg base (k + 1) "_law_thin" ["row_so"] (runDef 1 3 (e__law_thin Γ)) := by
  refine fok (N := ["row_so", "found", "lap"]) (fA K) (e__law_thin Γ) (f__law_thin c) sc__law_thin (by decide) ?_
  intro cdv A outer s0 H E ta hr hf
  exact (xss_cons (xsetO 1 sc__law_thin.nd rfl (.inl rfl) (xbt RN.back cs_list rfl (c.b 59 rfl) (by decide +kernel) (xa_consO (xOE (xv 0 rfl (.inl rfl))) xa_nil))) (xss_cons (xfor PassesOwn.never (xi_range1 rfl (c.b 60 rfl) (xa_consO (xOE (xbf RE.back cs_len rfl (c.b 52 rfl) (by decide +kernel) (xa_consO (xOE (xv 0 rfl (.inl rfl))) xa_nil))) xa_nil)) (xg_name 2 sc__law_thin.nd rfl (.inl rfl)) (xss_cons (xif' (xt_cmp os_ne (xOE (xix (xo 1 rfl (.inl rfl)) (xOE (xun us_neg (xOE (xi 1)))))) (xOE (xtup (xa_cons (xi 0) (xa_cons (xi 1) xa_nil))))) (xss_cons xbreak xss_nil) xss_nil) (xss_cons (xpop 1 rfl (.inl rfl)) xss_nil))) (xss_cons (xret (xbt RE.back cs_tuple rfl (c.b 58 rfl) (by decide +kernel) (xa_consO (xOE (xv 1 rfl (.inl rfl))) xa_nil))) xss_nil)))
/-! _law_scale -/
def e__law_scale (Γ : Gam) : Nf.S := (sSeq (sRet (eCall Γ c__law_thin (aCons (eComp (iSeq (eVar 0)) (Nf.gName 2) [2] Nf.tYes (eCall Γ c__law_times (aCons (eVar 2) (aCons (eVar 1) aNil)))) aNil))) sNil)
theorem sc__law_scale : FnScope ["poly_so", "by_so", "own"] ["poly_so", "by_so"] (defScope (top 58)) := ⟨rfl, rfl, rfl, by decide +kernel, rfl, by decide +kernel, by decide +kernel⟩
theorem b__law_scale {fd : FuncData} {ad : Addr} {kws : List (PySem.Str × V)} (F : FunD K "_law_scale" "_law_scale" (defArgs (top 58)) (defBody (top 58)) (defScope (top 58)) [] kws ad fd) : Binds K fd ["poly_so", "by_so"] [] := F.bindsN fun _ _ _ _ _ _ us hl => match us, hl with | [_, _], _ => rfl
theorem f__law_scale (c : Cn fa fn tu K mg) : FunD K "_law_scale" "_law_scale" (defArgs (top 58)) (defBody (top 58)) (defScope (top 58)) [] [] (He.ga K "_law_scale") (fdOf K (He.ga K "_law_scale")) := c.f 43 (d := d__law_scale) rfl
theorem k__law_scale (c : Cn fa fn tu K mg) (Γ : Gam) (h__law_thin : FO P w K mg base k "_law_thin" ["row_so"] (Γ c__law_thin)) (h__law_times : FO P w K mg base k "_law_times" ["one", "two"] (Γ c__law_times)) : FO P w K mg base (k + 1) "_law_scale" ["poly_so", "by_so"] (runDef 2 3 (e__law_scale Γ)) := by
  refine fok (N := ["poly_so", "by_so", "own"]) (fA K) (e__law_scale Γ) (f__law_scale c) sc__law_scale (by decide) ?_
  intro cdv A outer s0 H E ta hr hf
  exact (xss_cons (xret (xcall Γ c__law_thin h__law_thin hr rfl (c.g 42 rfl) (f__law_thin c).kp (b__law_thin (f__law_thin c)) (xa_cons (xEN (xcomp [2] sc__law_scale.nd (xiG (xi_seq (xv 0 rfl (.inl rfl)))) (blkOk_by (own := [("own", 2)]) (by kernel_rfl)) rfl (fun _ _ _ _ _ => (xg_name 2 sc__law_scale.nd rfl (.inl rfl))) (fun _ _ _ _ _ => xts_nil) (fun _ _ _ _ _ => (xcall Γ c__law_times h__law_times hr rfl (c.g 41 rfl) (f__law_times c).kp (b__law_times (f__law_times c)) (xa_cons (xv 2 rfl (.inl rfl)) (xa_cons (xv 1 rfl (.inr (.inl rfl))) xa_nil)))))) xa_nil))) xss_nil)
/-! _law_mul -/
def e__law_mul (Γ : Gam) : Nf.S := (sSeq (sAsgO 2 (eOp oMulL (eLst (aCons (eTup (aCons (eC (.int 0)) (aCons (eC (.int 1)) aNil))) aNil)) (eOp oAdd (eB bLen (aCons (eVar 0) aNil)) (eB bLen (aCons (eVar 1) aNil))))) (sSeq (sFor (iEnum (aCons (eVar 0) aNil)) (Nf.gTup [(Nf.gName 3), (Nf.gName 4)]) (sSeq (sFor (iEnum (aCons (eVar 1) aNil)) (Nf.gTup [(Nf.gName 5), (Nf.gName 6)]) (sSeq (sSet 2 (eOp oAdd (eVar 3) (eVar 5)) (eCall Γ c__law_plus (aCons (eOp oIx (eOwn 2) (eOp oAdd (eVar 3) (eVar 5))) (aCons (eCall Γ c__law_times (aCons (eVar 4) (aCons (eVar 6) aNil))) aNil)))) sNil)) sNil)) (sSeq (sRet (eCall Γ c__law_thin (aCons (eVar 2) aNil))) sNil)))
theorem sc__law_mul : FnScope ["one", "two", "found", "j", "own", "k", "its"] ["one", "two"] (defScope (top 59)) := ⟨rfl, rfl, rfl, by decide +kernel, rfl, by decide +kernel, by decide +kernel⟩
theorem b__law_mul {fd : FuncData} {ad : Addr} {kws : List (PySem.Str × V)} (F : FunD K "_law_mul" "_law_mul" (defArgs (top 59)) (defBody (top 59)) (defScope (top 59)) [] kws ad fd) : Binds K fd ["one", "two"] [] := F.bindsN fun _ _ _ _ _ _ us hl => match us, hl with | [_, _], _ => rfl
theorem f__law_mul (c : Cn fa fn tu K mg) : FunD K "_law_mul" "_law_mul" (defArgs (top 59)) (defBody (top 59)) (defScope (top 59)) [] [] (He.ga K "_law_mul") (fdOf K (He.ga K "_law_mul")) := c.f 44 (d := d__law_mul) rfl
theorem k__law_mul (c : Cn fa fn tu K mg) (Γ : Gam) (h__law_plus : FO P w K mg base k "_law_plus" ["one", "two"] (Γ c__law_plus)) (h__law_times : FO P w K mg base k "_law_times" ["one", "two"] (Γ c__law_times)) (h__law_thin : FO P w K mg base k "_law_thin" ["row_so"] (Γ c__law_thin)) : FO P w K mg base (k + 1) "_law_mul" ["one", "two"] (runDef 2 7 (e__law_mul Γ)) := by
  refine fok (N := ["one", "two", "found", "j", "own", "k", "its"]) (fA K) (e__law_mul Γ) (f__law_mul c) sc__law_mul (by decide) ?_
  intro cdv A outer s0 H E ta hr hf
  exact (xss_cons (xsetO 2 sc__law_mul.nd rfl (.inl rfl) (xopN os_mulL (xOE (xEN (xlst (xa_cons (xtup (xa_cons (xi 0) (xa_cons (xi 1) xa_nil))) xa_nil)))) (xOE (xopE os_add (xOE (xbf RE.back cs_len rfl (c.b 52 rfl) (by decide +kernel) (xa_consO (xOE (xv 0 rfl (.inl rfl))) xa_nil))) (xOE (xbf RE.back cs_len rfl (c.b 52 rfl) (by decide +kernel) (xa_consO (xOE (xv 1 rfl (.inl rfl))) xa_nil))))))) (xss_cons (xfor PassesOwn.never (xi_enum rfl (c.b 68 rfl) (xa_cons (xv 0 rfl (.inl rfl)) xa_nil)) (xg_tup (xgs_cons (xg_name 3 sc__law_mul.nd rfl (.inl rfl)) (xgs_cons (xg_name 4 sc__law_mul.nd rfl (.inl rfl)) xgs_nil))) (xss_cons (xfor PassesOwn.never (xi_enum rfl (c.b 68 rfl) (xa_cons (xv 1 rfl (.inl rfl)) xa_nil)) (xg_tup (xgs_cons (xg_name 5 sc__law_mul.nd rfl (.inl rfl)) (xgs_cons (xg_name 6 sc__law_mul.nd rfl (.inl rfl)) xgs_nil))) (xss_cons (xsetIx 2 (xcall Γ c__law_plus h__law_plus hr rfl (c.g 40 rfl) (f__law_plus c).kp (b__law_plus (f__law_plus c)) (xa_cons (xix (xo 2 rfl (.inl rfl)) (xOE (xopE os_add (xOE (xv 3 rfl (.inl rfl))) (xOE (xv 5 rfl (.inl rfl)))))) (xa_cons (xcall Γ c__law_times h__law_times hr rfl (c.g 41 rfl) (f__law_times c).kp (b__law_times (f__law_times c)) (xa_cons (xv 4 rfl (.inl rfl)) (xa_cons (xv 6 rfl (.inl rfl)) xa_nil))) xa_nil))) (xOE (xopE os_add (xOE (xv 3 rfl (.inl rfl))) (xOE (xv 5 rfl (.inl rfl))))) rfl (.inl rfl)) xss_nil)) xss_nil)) (xss_cons (xret (xcall Γ c__law_thin h__law_thin hr rfl (c.g 42 rfl) (f__law_thin c).kp (b__law_thin (f__law_thin c)) (xa_cons (xv 2 rfl (.inl rfl)) xa_nil))) xss_nil)))
/-! _law_value -/
def e__law_value (Γ : Gam) : Nf.S := (sSeq (sAsg (Nf.gName 2) (eTup (aCons (eC (.int 0)) (aCons (eC (.int 1)) aNil)))) (sSeq (sFor (iSeq (eUn oRev (eVar 0))) (Nf.gName 3) (sSeq (sAsg (Nf.gName 2) (eCall Γ c__law_plus (aCons (eCall Γ c__law_times (aCons (eVar 2) (aCons (eTup (aCons (eVar 1) (aCons (eC (.int 1)) aNil))) aNil))) (aCons (eVar 3) aNil)))) sNil)) (sSeq (sRet (eVar 2)) sNil)))
theorem sc__law_value : FnScope ["poly_so", "number_so", "total_so", "own"] ["poly_so", "number_so"] (defScope (top 60)) := ⟨rfl, rfl, rfl, by decide +kernel, rfl, by decide +kernel, by decide +kernel⟩
theorem b__law_value {fd : FuncData} {ad : Addr} {kws : List (PySem.Str × V)} (F : FunD K "_law_value" "_law_value" (defArgs (top 60)) (defBody (top 60)) (defScope (top 60)) [] kws ad fd) : Binds K fd ["poly_so", "number_so"] [] := F.bindsN fun _ _ _ _ _ _ us hl => match us, hl with | [_, _], _ => rfl
theorem f__law_value (c : Cn fa fn tu K mg) : FunD K "_law_value" "_law_value" (defArgs (top 60)) (defBody (top 60)) (defScope (top 60)) [] [] (He.ga K "_law_value") (fdOf K (He.ga K "_law_value")) := c.f 45 (d := d__law_value) rfl
theorem k__law_value (c : Cn fa fn tu K mg) (Γ : Gam) (h__law_plus : FO P w K mg base k "_law_plus" ["one", "two"] (Γ c__law_plus)) (h__law_times : FO P w K mg base k "_law_times" ["one", "two"] (Γ c__law_times)) : FO P w K mg base (k + 1) "_law_value" ["poly_so", "number_so"] (runDef 2 4 (e__law_value Γ)) := by
  refine fok (N := ["poly_so", "number_so", "total_so", "own"]) (fA K) (e__law_value Γ) (f__law_value c) sc__law_value (by decide) ?_
  intro cdv A outer s0 H E ta hr hf
  exact (xss_cons (xset 2 sc__law_value.nd rfl (.inl rfl) (xtup (xa_cons (xi 0) (xa_cons (xi 1) xa_nil)))) (xss_cons (xfor PassesOwn.never (xi_seq (xrev (xOE (xv 0 rfl (.inl rfl))))) (xg_name 3 sc__law_value.nd rfl (.inl rfl)) (xss_cons (xset 2 sc__law_value.nd rfl (.inl rfl) (xcall Γ c__law_plus h__law_plus hr rfl (c.g 40 rfl) (f__law_plus c).kp (b__law_plus (f__law_plus c)) (xa_cons (xcall Γ c__law_times h__law_times hr rfl (c.g 41 rfl) (f__law_times c).kp (b__law_times (f__law_times c)) (xa_cons (xv 2 rfl (.inl rfl)) (xa_cons (xtup (xa_cons (xv 1 rfl (.inl rfl)) (xa_cons (xi 1) xa_nil))) xa_nil))) (xa_cons (xv 3 rfl (.inl rfl)) xa_nil)))) xss_nil)) (xss_cons (xret (xv 2 rfl (.inl rfl))) xss_nil)))
/-! _law_roots -/
def e__law_roots (Γ : Gam) : Nf.S := (sSeq (sAsg (Nf.gName 1) (eTup (aCons (eTup (aCons (eC (.int 1)) (aCons (eC (.int 1)) aNil))) aNil))) (sSeq (sFor (iSeq (eVar 0)) (Nf.gName 2) (sSeq (sAsg (Nf.gName 1) (eCall Γ c__law_mul (aCons (eVar 1) (aCons (eIf (tBl (eOp cNe (eVar 2) (eC (.int 0)))) (eTup (aCons (eTup (aCons (eOp oSub (eC (.int 0)) (eVar 2)) (aCons (eC (.int 1)) aNil))) (aCons (eTup (aCons (eC (.int 1)) (aCons (eC (.int 1)) aNil))) aNil))) (eTup (aCons (eTup (aCons (eC (.int 0)) (aCons (eC (.int 1)) aNil))) (aCons (eTup (aCons (eC (.int 1)) (aCons (eC (.int 1)) aNil))) aNil)))) aNil)))) sNil)) (sSeq (sRet (eVar 1)) sNil)))
theorem sc__law_roots : FnScope ["numbers_so", "found", "own"] ["numbers_so"] (defScope (top 61)) := ⟨rfl, rfl, rfl, by decide +kernel, rfl, by decide +kernel, by decide +kernel⟩
theorem b__law_roots {fd : FuncData} {ad : Addr} {kws : List (PySem.Str × V)} (F : FunD K "_law_roots" "_law_roots" (defArgs (top 61)) (defBody (top 61)) (defScope (top 61)) [] kws ad fd) : Binds K fd ["numbers_so"] [] := F.bindsN fun _ _ _ _ _ _ us hl => match us, hl with | [_], _ => rfl
theorem f__law_roots (c : Cn fa fn tu K mg) : FunD K "_law_roots" "_law_roots" (defArgs (top 61)) (defBody (top 61)) (defScope (top 61)) [] [] (He.ga K "_law_roots") (fdOf K (He.ga K "_law_roots")) := c.f 46 (d := d__law_roots) rfl
theorem k__law_roots (c : Cn fa fn tu K mg) (Γ : Gam) (h__law_mul : FO P w K mg base k "_law_mul" ["one", "two"] (Γ c__law_mul)) : FO P w K mg base (k + 1) "_law_roots" ["numbers_so"] (runDef 1 3 (e__law_roots Γ)) := by
  refine fok (N := ["numbers_so", "found", "own"]) (fA K) (e__law_roots Γ) (f__law_roots c) sc__law_roots (by decide) ?_
  intro cdv A outer s0 H E ta hr hf
  exact (xss_cons (xset 1 sc__law_roots.nd rfl (.inl rfl) (xtup (xa_cons (xtup (xa_cons (xi 1) (xa_cons (xi 1) xa_nil))) xa_nil))) (xss_cons (xfor PassesOwn.never (xi_seq (xv 0 rfl (.inl rfl))) (xg_name 2 sc__law_roots.nd rfl (.inl rfl)) (xss_cons (xset 1 sc__law_roots.nd rfl (.inl rfl) (xcall Γ c__law_mul h__law_mul hr rfl (c.g 44 rfl) (f__law_mul c).kp (b__law_mul (f__law_mul c)) (xa_cons (xv 1 rfl (.inl rfl)) (xa_cons (xif (xt_cmp os_ne (xOE (xv 2 rfl (.inl rfl))) (xOE (xi 0))) (xtup (xa_cons (xtup (xa_cons (xopE os_sub (xOE (xi 0)) (xOE (xv 2 rfl (.inl rfl)))) (xa_cons (xi 1) xa_nil))) (xa_cons (xtup (xa_cons (xi 1) (xa_cons (xi 1) xa_nil))) xa_nil))) (xtup (xa_cons (xtup (xa_cons (xi 0) (xa_cons (xi 1) xa_nil))) (xa_cons (xtup (xa_cons (xi 1) (xa_cons (xi 1) xa_nil))) xa_nil)))) xa_nil)))) xss_nil)) (xss_cons (xret (xv 1 rfl (.inl rfl))) xss_nil)))
/-! _law_chosen -/
def e__law_chosen (Γ : Gam) : Nf.S := (sSeq (sAsg (Nf.gName 1) (eC (.int 1))) (sSeq (sFor (iRange2 (aCons (eC (.int 2)) (aCons (eOp oAdd (eVar 0) (eC (.int 1))) aNil))) (Nf.gName 2) (sSeq (sAsg (Nf.gName 1) (eOp oMul (eVar 1) (eVar 2))) sNil)) (sSeq (sRet (eCall Γ c__law_scale (aCons (eCall Γ c__law_roots (aCons (eLRg1 (eVar 0)) aNil)) (aCons (eTup (aCons (eC (.int 1)) (aCons (eVar 1) aNil))) aNil)))) sNil)))
theorem sc__law_chosen : FnScope ["many_so", "size_so", "k"] ["many_so"] (defScope (top 62)) := ⟨rfl, rfl, rfl, by decide +kernel, rfl, by decide +kernel, by decide +kernel⟩
theorem b__law_chosen {fd : FuncData} {ad : Addr} {kws : List (PySem.Str × V)} (F : FunD K "_law_chosen" "_law_chosen" (defArgs (top 62)) (defBody (top 62)) (defScope (top 62)) [] kws ad fd) : Binds K fd ["many_so"] [] := F.bindsN fun _ _ _ _ _ _ us hl => match us, hl with | [_], _ => rfl
theorem f__law_chosen (c : Cn fa fn tu K mg) : FunD K "_law_chosen" "_law_chosen" (defArgs (top 62)) (defBody (top 62)) (defScope (top 62)) [] [] (He.ga K "_law_chosen") (fdOf K (He.ga K "_law_chosen")) := c.f 47 (d := d__law_chosen) rfl
theorem k__law_chosen (c : Cn fa fn tu K mg) (Γ : Gam) (h__law_scale : FO P w K mg base k "_law_scale" ["poly_so", "by_so"] (Γ c__law_scale)) (h__law_roots : FO P w K mg base k "_law_roots" ["numbers_so"] (Γ c__law_roots)) : FO P w K mg base (k + 1) "_law_chosen" ["many_so"] (runDef 1 3 (e__law_chosen Γ)) := by
  refine fok (N := ["many_so", "size_so", "k"]) (fA K) (e__law_chosen Γ) (f__law_chosen c) sc__law_chosen (by decide) ?_
  intro cdv A outer s0 H E ta hr hf
  exact (xss_cons (xset 1 sc__law_chosen.nd rfl (.inl rfl) (xi 1)) (xss_cons (xfor PassesOwn.never (xi_range2 rfl (c.b 60 rfl) (xa_consO (xOE (xi 2)) (xa_consO (xOE (xopE os_add (xOE (xv 0 rfl (.inl rfl))) (xOE (xi 1)))) xa_nil))) (xg_name 2 sc__law_chosen.nd rfl (.inl rfl)) (xss_cons (xset 1 sc__law_chosen.nd rfl (.inl rfl) (xopE os_mul (xOE (xv 1 rfl (.inl rfl))) (xOE (xv 2 rfl (.inl rfl))))) xss_nil)) (xss_cons (xret (xcall Γ c__law_scale h__law_scale hr rfl (c.g 43 rfl) (f__law_scale c).kp (b__law_scale (f__law_scale c)) (xa_cons (xcall Γ c__law_roots h__law_roots hr rfl (c.g 46 rfl) (f__law_roots c).kp (b__law_roots (f__law_roots c)) (xa_cons (xEN (xlrg1 rfl (c.b 59 rfl) rfl (c.b 60 rfl) (xOE (xv 0 rfl (.inl rfl))))) xa_nil)) (xa_cons (xtup (xa_cons (xi 1) (xa_cons (xv 1 rfl (.inl rfl)) xa_nil))) xa_nil)))) xss_nil)))
/-! _law_few -/
def e__law_few (Γ : Gam) : Nf.S := (sSeq (sAsg (Nf.gName 2) (eC (.int 1))) (sSeq (sFor (iRange1 (aCons (eVar 1) aNil)) (Nf.gName 3) (sSeq (sAsg (Nf.gName 2) (eOp oDiv (eOp oMul (eVar 2) (eOp oSub (eVar 0) (eVar 3))) (eOp oAdd (eVar 3) (eC (.int 1))))) sNil)) (sSeq (sRet (eIf (tBl (eOp cLe (eVar 1) (eVar 0))) (eVar 2) (eC (.int 0)))) sNil)))
theorem sc__law_few : FnScope ["many_so", "k", "found", "j"] ["many_so", "k"] (defScope (top 63)) := ⟨rfl, rfl, rfl, by decide +kernel, rfl, by decide +kernel, by decide +kernel⟩
theorem b__law_few {fd : FuncData} {ad : Addr} {kws : List (PySem.Str × V)} (F : FunD K "_law_few" "_law_few" (defArgs (top 63)) (defBody (top 63)) (defScope (top 63)) [] kws ad fd) : Binds K fd ["many_so", "k"] [] := F.bindsN fun _ _ _ _ _ _ us hl => match us, hl with | [_, _], _ => rfl
theorem f__law_few (c : Cn fa fn tu K mg) : FunD K "_law_few" "_law_few" (defArgs (top 63)) (defBody (top 63)) (defScope (top 63)) [] [] (He.ga K "_law_few") (fdOf K (He.ga K "_law_few")) := c.f 48 (d := d__law_few) rfl
theorem k__law_few (c : Cn fa fn tu K mg) (Γ : Gam) : FO P w K mg base (k + 1) "_law_few" ["many_so", "k"] (runDef 2 4 (e__law_few Γ)) := by
  refine fok (N := ["many_so", "k", "found", "j"]) (fA K) (e__law_few Γ) (f__law_few c) sc__law_few (by decide) ?_
  intro cdv A outer s0 H E ta hr hf
  exact (xss_cons (xset 2 sc__law_few.nd rfl (.inl rfl) (xi 1)) (xss_cons (xfor PassesOwn.never (xi_range1 rfl (c.b 60 rfl) (xa_consO (xOE (xv 1 rfl (.inl rfl))) xa_nil)) (xg_name 3 sc__law_few.nd rfl (.inl rfl)) (xss_cons (xset 2 sc__law_few.nd rfl (.inl rfl) (xopE os_div (xOE (xopE os_mul (xOE (xv 2 rfl (.inl rfl))) (xOE (xopE os_sub (xOE (xv 0 rfl (.inl rfl))) (xOE (xv 3 rfl (.inl rfl))))))) (xOE (xopE os_add (xOE (xv 3 rfl (.inl rfl))) (xOE (xi 1)))))) xss_nil)) (xss_cons (xret (xif (xt_cmp os_le (xOE (xv 1 rfl (.inl rfl))) (xOE (xv 0 rfl (.inl rfl)))) (xv 2 rfl (.inl rfl)) (xi 0))) xss_nil)))
/-! _law_due -/
def e__law_due (Γ : Gam) : Nf.S := (sSeq (sAsg (Nf.gName 3) (eC (.int 1))) (sSeq (sFor (iRange1 (aCons (eC (.int 8)) aNil)) (Nf.gName 4) (sSeq (sAsg (Nf.gName 3) (eOp oMod (eOp oMul (eVar 3) (eCall Γ c__law_few (aCons (eOp oMod (eVar 0) (eVar 2)) (aCons (eOp oMod (eVar 1) (eVar 2)) aNil)))) (eVar 2))) (sSeq (sPar [(0, false), (1, false)] (aCons (eOp oDiv (eVar 0) (eVar 2)) (aCons (eOp oDiv (eVar 1) (eVar 2)) aNil))) sNil))) (sSeq (sRet (eVar 3)) sNil)))
theorem sc__law_due : FnScope ["many_so", "k", "prime_so", "found", "lap"] ["many_so", "k", "prime_so"] (defScope (top 64)) := ⟨rfl, rfl, rfl, by decide +kernel, rfl, by decide +kernel, by decide +kernel⟩
theorem b__law_due {fd : FuncData} {ad : Addr} {kws : List (PySem.Str × V)} (F : FunD K "_law_due" "_law_due" (defArgs (top 64)) (defBody (top 64)) (defScope (top 64)) [] kws ad fd) : Binds K fd ["many_so", "k", "prime_so"] [] := F.bindsN fun _ _ _ _ _ _ us hl => match us, hl with | [_, _, _], _ => rfl
theorem f__law_due (c : Cn fa fn tu K mg) : FunD K "_law_due" "_law_due" (defArgs (top 64)) (defBody (top 64)) (defScope (top 64)) [] [] (He.ga K "_law_due") (fdOf K (He.ga K "_law_due")) := c.f 49 (d := d__law_due) rfl
theorem k__law_due (c : Cn fa fn tu K mg) (Γ : Gam) (h__law_few : FO P w K mg base k "_law_few" ["many_so", "k"] (Γ c__law_few)) : FO P w K mg base (k + 1) "_law_due" ["many_so", "k", "prime_so"] (runDef 3 5 (e__law_due Γ)) := by
  refine fok (N := ["many_so", "k", "prime_so", "found", "lap"]) (fA K) (e__law_due Γ) (f__law_due c) sc__law_due (by decide) ?_
  intro cdv A outer s0 H E ta hr hf
  exact (xss_cons (xset 3 sc__law_due.nd rfl (.inl rfl) (xi 1)) (xss_cons (xfor PassesOwn.never (xi_range1 rfl (c.b 60 rfl) (xa_consO (xOE (xi 8)) xa_nil)) (xg_name 4 sc__law_due.nd rfl (.inl rfl)) (xss_cons (xset 3 sc__law_due.nd rfl (.inl rfl) (xopE os_mod (xOE (xopE os_mul (xOE (xv 3 rfl (.inl rfl))) (xOE (xcall Γ c__law_few h__law_few hr rfl (c.g 48 rfl) (f__law_few c).kp (b__law_few (f__law_few c)) (xa_cons (xopE os_mod (xOE (xv 0 rfl (.inl rfl))) (xOE (xv 2 rfl (.inl rfl)))) (xa_cons (xopE os_mod (xOE (xv 1 rfl (.inl rfl))) (xOE (xv 2 rfl (.inl rfl)))) xa_nil)))))) (xOE (xv 2 rfl (.inl rfl))))) (xss_cons (xpar2 (b1 := false) (b2 := false) sc__law_due.nd (i := 0)  (j := 1) rfl rfl (by decide) rfl rfl (xm_e (xopE os_div (xOE (xv 0 rfl (.inl rfl))) (xOE (xv 2 rfl (.inl rfl)))) (xm_e (xopE os_div (xOE (xv 1 rfl (.inl rfl))) (xOE (xv 2 rfl (.inl rfl)))) xm_nil)) rfl) xss_nil))) (xss_cons (xret (xv 3 rfl (.inl rfl))) xss_nil)))
/-! _law_right -/
def e__law_right (Γ : Gam) : Nf.S := (sSeq (sAsg (Nf.gName 1) (eCall Γ c__law_of (aCons (eVar 0) (aCons (eLst (aCons (eC (.int 2)) (aCons (eC (.int 3)) (aCons (eC (.int 5)) (aCons (eC (.int 7)) aNil))))) aNil)))) (sSeq (sAsg (Nf.gName 2) (eCall Γ c__law_take (aCons (eVar 0) (aCons (eC (.int 25)) aNil)))) (sSeq (sAsg (Nf.gName 3) (eCall Γ c_chosen_poly (aCons (eVar 2) aNil))) (sSeq (sIf (tBl (eOp cNe (eVar 3) (eCall Γ c__law_chosen (aCons (eVar 2) aNil)))) (sSeq (sRet (eC (.bl false))) sNil) sNil) (sSeq (sAsg (Nf.gName 4) (eC (.int 1))) (sSeq (sFor (iRange1 (aCons (eC (.int 8)) aNil)) (Nf.gName 5) (sSeq (sIf (tBl (eOp cGt (eVar 4) (eVar 2))) (sSeq sBreak sNil) sNil) (sSeq (sAsg (Nf.gName 4) (eOp oMul (eVar 4) (eVar 1))) sNil))) (sSeq (sAsg (Nf.gName 6) (eCall Γ c_poly_rests (aCons (eVar 3) (aCons (eVar 1) aNil)))) (sSeq (sAsg (Nf.gName 7) (eB bTuple (aCons (eComp (iRange1 (aCons (eIf (tBl (eOp cGt (eVar 2) (eC (.int 0)))) (eVar 4) (eC (.int 1))) aNil)) (Nf.gName 8) [8] Nf.tYes (eCall Γ c__law_due (aCons (eVar 8) (aCons (eVar 2) (aCons (eVar 1) aNil))))) aNil))) (sSeq (sIf (Nf.tOr (Nf.tNot (tTru (eCall Γ c__law_same (aCons (eVar 6) (aCons (eVar 7) aNil))))) (tBl (eOp cNe (eComp (iRange1 (aCons (eC (.int 40)) aNil)) (Nf.gName 8) [8] (tBl (eOp cNe (eOp oMod (eOp oIx (eCall Γ c__law_value (aCons (eVar 3) (aCons (eVar 8) aNil))) (eC (.int 0))) (eVar 1)) (eOp oIx (eVar 7) (eOp oMod (eVar 8) (eB bLen (aCons (eVar 7) aNil)))))) (eVar 8)) (eLst aNil)))) (sSeq (sRet (eC (.bl false))) sNil) sNil) (sSeq (sIf (Nf.tAnd (tBl (eOp cLt (eB bLen (aCons (eVar 6) aNil)) (eC (.int 61)))) (Nf.tOr (Nf.tNot (tTru (eCall Γ c_can_tell_rests (aCons (eVar 1) (aCons (eVar 6) aNil))))) (tBl (eOp cNotB (eCall Γ c_is_rests_poly (aCons (eVar 1) (aCons (eVar 6) (aCons (eVar 3) aNil)))) (eC (.bl true)))))) (sSeq (sRet (eC (.bl false))) sNil) sNil) (sSeq (sRet (eOp cEq (eComp (iRange2 (aCons (eC (.int 1)) (aCons (eC (.int 20)) aNil))) (Nf.gName 8) [8] (tBl (eOp cNe (eOp oMod (eOp oIx (eCall Γ c__law_value (aCons (eVar 3) (aCons (eOp oSub (eC (.int 0)) (eVar 8)) aNil))) (eC (.int 0))) (eVar 1)) (eOp oIx (eVar 7) (eOp oMod (eOp oSub (eC (.int 0)) (eVar 8)) (eB bLen (aCons (eVar 7) aNil)))))) (eVar 8)) (eLst aNil))) sNil)))))))))))
theorem sc__law_right : FnScope ["tin", "prime_so", "k", "poly_so", "long_so", "lap", "row_so", "due", "own"] ["tin"] (defScope (top 65)) := ⟨rfl, rfl, rfl, by decide +kernel, rfl, by decide +kernel, by decide +kernel⟩
theorem b__law_right {fd : FuncData} {ad : Addr} {kws : List (PySem.Str × V)} (F : FunD K "_law_right" "_law_right" (defArgs (top 65)) (defBody (top 65)) (defScope (top 65)) [] kws ad fd) : Binds K fd ["tin"] [] := F.bindsN fun _ _ _ _ _ _ us hl => match us, hl with | [_], _ => rfl
theorem f__law_right (c : Cn fa fn tu K mg) : FunD K "_law_right" "_law_right" (defArgs (top 65)) (defBody (top 65)) (defScope (top 65)) [] [] (He.ga K "_law_right") (fdOf K (He.ga K "_law_right")) := c.f 50 (d := d__law_right) rfl
theorem k__law_right (c : Cn fa fn tu K mg) (Γ : Gam) (h__law_of : FO P w K mg base k "_law_of" ["tin", "goods_so"] (Γ c__law_of)) (h__law_take : FO P w K mg base k "_law_take" ["tin", "below_so"] (Γ c__law_take)) (h_chosen_poly : FO P w K mg base k "chosen_poly" ["number"] (Γ c_chosen_poly)) (h__law_chosen : FO P w K mg base k "_law_chosen" ["many_so"] (Γ c__law_chosen)) (h_poly_rests : FO P w K mg base k "poly_rests" ["poly", "by"] (Γ c_poly_rests)) (h__law_due : FO P w K mg base k "_law_due" ["many_so", "k", "prime_so"] (Γ c__law_due)) (h__law_same : FO P w K mg base k "_law_same" ["got", "due"] (Γ c__law_same)) (h__law_value : FO P w K mg base k "_law_value" ["poly_so", "number_so"] (Γ c__law_value)) (h_can_tell_rests : FO P w K mg base k "can_tell_rests" ["by", "rests"] (Γ c_can_tell_rests)) (h_is_rests_poly : FO P w K mg base k "is_rests_poly" ["by", "rests", "thing"] (Γ c_is_rests_poly)) : FO P w K mg base (k + 1) "_law_right" ["tin"] (runDef 1 9 (e__law_right Γ)) := by
  refine fok (N := ["tin", "prime_so", "k", "poly_so", "long_so", "lap", "row_so", "due", "own"]) (fA K) (e__law_right Γ) (f__law_right c) sc__law_right (by decide) ?_
  intro cdv A outer s0 H E ta hr hf
  exact (xss_cons (xset 1 sc__law_right.nd rfl (.inr rfl) (xcall Γ c__law_of h__law_of hr rfl (c.g 36 rfl) (f__law_of c).kp (b__law_of (f__law_of c)) (xa_cons (xv 0 rfl (.inl rfl)) (xa_cons (xEN (xlst (xa_cons (xi 2) (xa_cons (xi 3) (xa_cons (xi 5) (xa_cons (xi 7) xa_nil)))))) xa_nil)))) (xss_cons (xset 2 sc__law_right.nd rfl (.inr rfl) (xcall Γ c__law_take h__law_take hr rfl (c.g 34 rfl) (f__law_take c).kp (b__law_take (f__law_take c)) (xa_cons (xv 0 rfl (.inl rfl)) (xa_cons (xi 25) xa_nil)))) (xss_cons (xset 3 sc__law_right.nd rfl (.inr rfl) (xcall Γ c_chosen_poly h_chosen_poly hr rfl (c.g 22 rfl) (f_chosen_poly c).kp (b_chosen_poly (f_chosen_poly c)) (xa_cons (xv 2 rfl (.inr (.inl rfl))) xa_nil))) (xss_cons (xif' (xt_cmp os_ne (xOE (xv 3 rfl (.inr (.inl rfl)))) (xOE (xcall Γ c__law_chosen h__law_chosen hr rfl (c.g 47 rfl) (f__law_chosen c).kp (b__law_chosen (f__law_chosen c)) (xa_cons (xv 2 rfl (.inr (.inl rfl))) xa_nil)))) (xss_cons (xret (xb false)) xss_nil) xss_nil) (xss_cons (xset 4 sc__law_right.nd rfl (.inl rfl) (xi 1)) (xss_cons (xfor PassesOwn.never (xi_range1 rfl (c.b 60 rfl) (xa_consO (xOE (xi 8)) xa_nil)) (xg_name 5 sc__law_right.nd rfl (.inl rfl)) (xss_cons (xif' (xt_cmp os_gt (xOE (xv 4 rfl (.inl rfl))) (xOE (xv 2 rfl (.inr (.inl rfl))))) (xss_cons xbreak xss_nil) xss_nil) (xss_cons (xset 4 sc__law_right.nd rfl (.inl rfl) (xopE os_mul (xOE (xv 4 rfl (.inl rfl))) (xOE (xv 1 rfl (.inr (.inl rfl)))))) xss_nil))) (xss_cons (xset 6 sc__law_right.nd rfl (.inl rfl) (xcall Γ c_poly_rests h_poly_rests hr rfl (c.g 32 rfl) (f_poly_rests c).kp (b_poly_rests (f_poly_rests c)) (xa_cons (xv 3 rfl (.inr (.inl rfl))) (xa_cons (xv 1 rfl (.inr (.inl rfl))) xa_nil)))) (xss_cons (xset 7 sc__law_right.nd rfl (.inr rfl) (xbt RE.back cs_tuple rfl (c.b 58 rfl) (by decide +kernel) (xa_consO (xOE (xEN (xcomp [8] sc__law_right.nd (xiG (xi_range1 rfl (c.b 60 rfl) (xa_consO (xOE (xif (xt_cmp os_gt (xOE (xv 2 rfl (.inr (.inl rfl)))) (xOE (xi 0))) (xv 4 rfl (.inl rfl)) (xi 1))) xa_nil))) (blkOk_by (own := [("own", 8)]) (by kernel_rfl)) rfl (fun _ _ _ _ _ => (xg_name 8 sc__law_right.nd rfl (.inl rfl))) (fun _ _ _ _ _ => xts_nil) (fun _ _ _ _ _ => (xcall Γ c__law_due h__law_due hr rfl (c.g 49 rfl) (f__law_due c).kp (b__law_due (f__law_due c)) (xa_cons (xv 8 rfl (.inl rfl)) (xa_cons (xv 2 rfl (.inr (.inl rfl))) (xa_cons (xv 1 rfl (.inr (.inl rfl))) xa_nil)))))))) xa_nil))) (xss_cons (xif' (PW.pt (xw_or (xt_not (xt_tru (xOE (xcall Γ c__law_same h__law_same hr rfl (c.g 37 rfl) (f__law_same c).kp (b__law_same (f__law_same c)) (xa_cons (xv 6 rfl (.inl rfl)) (xa_cons (xv 7 rfl (.inr (.inl rfl))) xa_nil)))))) (xw_or1 (xt_cmp os_ne (xOE (xEN (xcomp [8] sc__law_right.nd (xiG (xi_range1 rfl (c.b 60 rfl) (xa_consO (xOE (xi 40)) xa_nil))) (blkOk_by (own := [("own", 8)]) (by kernel_rfl)) rfl (fun _ _ _ _ _ => (xg_name 8 sc__law_right.nd rfl (.inl rfl))) (fun _ _ _ _ _ => (xts_one (xt_cmp os_ne (xOE (xopE os_mod (xOE (xix (xOE (xcall Γ c__law_value h__law_value hr rfl (c.g 45 rfl) (f__law_value c).kp (b__law_value (f__law_value c)) (xa_cons (xv 3 rfl (.inr (.inl rfl))) (xa_cons (xv 8 rfl (.inl rfl)) xa_nil)))) (xOE (xi 0)))) (xOE (xv 1 rfl (.inr (.inl rfl)))))) (xOE (xix (xOE (xv 7 rfl (.inr (.inl rfl)))) (xOE (xopE os_mod (xOE (xv 8 rfl (.inl rfl))) (xOE (xbf RE.back cs_len rfl (c.b 52 rfl) (by decide +kernel) (xa_consO (xOE (xv 7 rfl (.inr (.inl rfl)))) xa_nil)))))))))) (fun _ _ _ _ _ => (xv 8 rfl (.inl rfl)))))) (xOE (xEN (xlst xa_nil))))))) (xss_cons (xret (xb false)) xss_nil) xss_nil) (xss_cons (xif' (PW.pt (xw_and (xt_cmp os_lt (xOE (xbf RE.back cs_len rfl (c.b 52 rfl) (by decide +kernel) (xa_consO (xOE (xv 6 rfl (.inl rfl))) xa_nil))) (xOE (xi 61))) (xw_and1 (PW.pt (xw_or (xt_not (xt_tru (xOE (xcall Γ c_can_tell_rests h_can_tell_rests hr rfl (c.g 27 rfl) (f_can_tell_rests c).kp (b_can_tell_rests (f_can_tell_rests c)) (xa_cons (xv 1 rfl (.inr (.inl rfl))) (xa_cons (xv 6 rfl (.inl rfl)) xa_nil)))))) (xw_or1 (xt_cmp os_notB (xOE (xcall Γ c_is_rests_poly h_is_rests_poly hr rfl (c.g 29 rfl) (f_is_rests_poly c).kp (b_is_rests_poly (f_is_rests_poly c)) (xa_cons (xv 1 rfl (.inr (.inl rfl))) (xa_cons (xv 6 rfl (.inl rfl)) (xa_cons (xv 3 rfl (.inr (.inl rfl))) xa_nil))))) (xOE (xb true))))))))) (xss_cons (xret (xb false)) xss_nil) xss_nil) (xss_cons (xret (xcmp os_eq (xOE (xEN (xcomp [8] sc__law_right.nd (xiG (xi_range2 rfl (c.b 60 rfl) (xa_consO (xOE (xi 1)) (xa_consO (xOE (xi 20)) xa_nil)))) (blkOk_by (own := [("own", 8)]) (by kernel_rfl)) rfl (fun _ _ _ _ _ => (xg_name 8 sc__law_right.nd rfl (.inl rfl))) (fun _ _ _ _ _ => (xts_one (xt_cmp os_ne (xOE (xopE os_mod (xOE (xix (xOE (xcall Γ c__law_value h__law_value hr rfl (c.g 45 rfl) (f__law_value c).kp (b__law_value (f__law_value c)) (xa_cons (xv 3 rfl (.inr (.inl rfl))) (xa_cons (xopE os_sub (xOE (xi 0)) (xOE (xv 8 rfl (.inl rfl)))) xa_nil)))) (xOE (xi 0)))) (xOE (xv 1 rfl (.inr (.inl rfl)))))) (xOE (xix (xOE (xv 7 rfl (.inr (.inl rfl)))) (xOE (xopE os_mod (xOE (xopE os_sub (xOE (xi 0)) (xOE (xv 8 rfl (.inl rfl))))) (xOE (xbf RE.back cs_len rfl (c.b 52 rfl) (by decide +kernel) (xa_consO (xOE (xv 7 rfl (.inr (.inl rfl)))) xa_nil)))))))))) (fun _ _ _ _ _ => (xv 8 rfl (.inl rfl)))))) (xOE (xEN (xlst xa_nil))))) xss_nil)))))))))))
end
end NfLaw

namespace NfLaw
open PySem PySem.Spec PyProof.Rows L2 Nf
section
variable {P : Program} {w : World} {K : PySem.W.Frag} {mg : PySem.Str → Option Value} {base : Heap} {k : Nat}
def e_tin (Γ : Gam) : E := (eCall Γ c__law_box (aCons (eCall Γ c__law_cells (aCons (eVar 0) (aCons (eC (.int 1)) aNil))) (aCons (eC (.int 0)) aNil)))
def e_all (Γ : Gam) : Nf.S := (sSeq (sRet (eB bAll (aCons (eComp (iRange1 (aCons (eC (.int 5)) aNil)) (Nf.gName 2) [2] Nf.tYes (eCall Γ c__law_right (aCons (eVar 1) aNil))) aNil))) sNil)
theorem sc_law : FnScope ["script", "tin", "lap"] ["script"] (defScope (top 66)) := ⟨rfl, rfl, rfl, by decide +kernel, rfl, by decide +kernel, by decide +kernel⟩
theorem f_law (c : Cn fa fn tu K mg) : FunD K "law" "law" (defArgs (top 66)) (defBody (top 66)) (defScope (top 66)) [] [] (He.ga K "law") (fdOf K (He.ga K "law")) := c.f 51 (d := d_law) rfl
theorem k_law (c : Cn fa fn tu K mg) (Γ : Gam) (h__law_box : FO P w K mg base k "_law_box" ["script", "k"] (Γ c__law_box)) (h__law_cells : FO P w K mg base k "_law_cells" ["script", "most_so"] (Γ c__law_cells)) (h__law_right : FO P w K mg base k "_law_right" ["tin"] (Γ c__law_right)) : FnOk P w K mg base CX0 (k + 1) (He.ga K "law") (fdOf K (He.ga K "law")) ["script"] (spLaw K (lawRun (e_tin Γ) (e_all Γ) 3)) := by
  refine fokLaw (N := ["script", "tin", "lap"]) (fA K) (e_tin Γ) (e_all Γ) (f_law c) sc_law (by decide) ?_
  intro cdv A outer s0 H E hr hf
  haveI := hf none
  refine ⟨rd ⟨K, none, fA K⟩ W0 (RE ⟨K, none, fA K⟩) (e_tin Γ), ps_set sc_law.nd rfl (.inr rfl) (xcall Γ c__law_box h__law_box hr rfl (c.g 33 rfl) (f__law_box c).kp (b__law_box (f__law_box c)) (xa_cons (xcall Γ c__law_cells h__law_cells hr rfl (c.g 35 rfl) (f__law_cells c).kp (b__law_cells (f__law_cells c)) (xa_cons (xv 0 rfl (.inl rfl)) (xa_cons (xi 1) xa_nil))) (xa_cons (xi 0) xa_nil))), fun σ H Q h => h, ?_⟩
  intro ta
  haveI := hf ta
  exact (xss_cons (xret (xbf RE.back cs_all rfl (c.b 53 rfl) (by decide +kernel) (xa_consO (xOE (xEN (xcomp [2] sc_law.nd (xiG (xi_range1 rfl (c.b 60 rfl) (xa_consO (xOE (xi 5)) xa_nil))) (blkOk_by (own := [("lap", 2)]) (by kernel_rfl)) rfl (fun _ _ _ _ _ => (xg_name 2 sc_law.nd rfl (.inl rfl))) (fun _ _ _ _ _ => xts_nil) (fun _ _ _ _ _ => (xcall Γ c__law_right h__law_right hr rfl (c.g 50 rfl) (f__law_right c).kp (b__law_right (f__law_right c)) (xa_cons (xv 1 rfl (.inr (.inl rfl))) xa_nil)))))) xa_nil))) xss_nil)
def r_is_number : List Val → M Val := runDef 1 1 (e_is_number (gam []))
abbrev g_is_number : List Val → M Val := r_is_number
def r_is_within : List Val → M Val := runDef 3 3 (e_is_within (gam [(c_is_number, g_is_number)]))
abbrev g_is_within : List Val → M Val := r_is_within
def r_sure_within : List Val → M Val := runDef 3 3 (e_sure_within (gam [(c_is_within, g_is_within)]))
abbrev g_sure_within : List Val → M Val := r_sure_within
def r_is_long : List Val → M Val := runDef 2 2 (e_is_long (gam []))
abbrev g_is_long : List Val → M Val := r_is_long
def r_are_numbers : List Val → M Val := runDef 1 2 (e_are_numbers (gam [(c_is_number, g_is_number)]))
abbrev g_are_numbers : List Val → M Val := r_are_numbers
def r_tupled : Nat → List Val → M Val
  | 0 => fun _ _ => .bad
  | j + 1 => runDef 1 2 (e_tupled (gam ((c_tupled, r_tupled j) :: [])))
def g_tupled : List Val → M Val := r_tupled 8
def r_common_of : List Val → M Val := runDef 2 2 (e_common_of (gam []))
abbrev g_common_of : List Val → M Val := gcdV
theorem m_common_of (args : List Val) (t : Tin) (h : gcdV args t ≠ .bad) : r_common_of args t = gcdV args t := by
  unfold gcdV at h ⊢
  split at h
  · rename_i a b
    split at h
    · rename_i hb
      obtain ⟨g, hg, hv⟩ := gcd_loop 4000 a b fuel t hb.1 hb.2 (by decide)
      have e0 : env0 2 [Val.int a, Val.int b] = ev a b := rfl
      simp only [r_common_of, runDef, List.length_cons, List.length_nil, if_true, e0]
      rw [if_pos hb]
      unfold e_common_of
      simp only [sSeq, sWhile]
      rw [hg]
      simp [Nf.eVar, Nf.eOwn, Nf.eC, Nf.eOp, Nf.eUn, Nf.aNil, Nf.aCons, Nf.eTup, Nf.eLst, Nf.eB, Nf.eCall, Nf.eIf, Nf.eTin, Nf.tru, Nf.eAnd, Nf.eOr, Nf.eNot, Nf.tTru, Nf.tBl, Nf.tAnd, Nf.tOr, Nf.tNot, Nf.tYes, Nf.gName, Nf.gsL, Nf.gTup, Nf.sNil, Nf.sSeq, Nf.sBad, Nf.sBreak, Nf.sCont, Nf.frzAll, Nf.sRet, Nf.sIf, Nf.sAsg, Nf.sAsgO, Nf.putAll, Nf.sPar, Nf.sDrop, Nf.ownL, Nf.putL, Nf.sApp, Nf.sSet, Nf.sTin, Nf.env0, Nf.runDef, Nf.oAdd, Nf.oSub, Nf.oMul, Nf.oDiv, Nf.oMod, Nf.uNeg, Nf.cNe, Nf.cEq, Nf.cLt, Nf.cLe, Nf.cGt, Nf.cGe, Nf.Val.data, Nf.dataL, Nf.Val.depth, Nf.depthL, Nf.veq, Nf.veqL, Nf.oIx, Nf.ixOf, Nf.bLen, Nf.bAbs, Nf.bInt, Nf.iSeq, Nf.items, Nf.gam, ev]
      split <;> omega
    · exact absurd rfl h
  · exact absurd rfl h

def r_least_of : List Val → M Val := runDef 2 2 (e_least_of (gam [(c_common_of, g_common_of)]))
abbrev g_least_of : List Val → M Val := leastV
theorem m_least_of (args : List Val) (t : Tin) (h : leastV args t ≠ .bad) : r_least_of args t = leastV args t := by
  unfold leastV at h ⊢
  split at h
  · rename_i a b
    split at h
    · rename_i hb
      rw [if_pos hb]
      simp only [Bool.and_eq_true, pos_iff] at hb
      obtain ⟨⟨h1, h2⟩, h3⟩ := hb
      have h4 : b < 2 ^ 4000 := Int.lt_trans (sm_lt h2) (Int.pow_lt_pow_of_lt (by decide) (by decide))
      have h0 := gcd_pos (a := a) h1
      have h5 := gcd_log (a := a) h1 h4
      have e1 : gcdV [.int a, .int b] t = .ok (.int (Int.gcd a b)) t := if_pos ⟨Int.le_of_lt h1, h4⟩
      refine runDef_rt rfl (sSeq_rt ?_)
      simp only [sRet, frzAll, env0, List.map_cons, List.map_nil, List.length_cons, List.length_nil, List.append_nil, List.replicate, Nat.sub_self, Option.map_some, eCall, gam, if_true, aCons, aNil, eOp, eVar, List.getElem?_cons_zero, List.getElem?_cons_succ, Res.bind_ok, Res.bindN_ok, e1, oDiv, h0, h5, ne_eq, not_false_eq_true, and_self, oMul, sm_bits h3 h2, Res.toS_ok]
    · exact absurd rfl h
  · exact absurd rfl h

def r_slim : List Val → M Val := runDef 2 3 (e_slim (gam [(c_common_of, g_common_of)]))
abbrev g_slim : List Val → M Val := slimV
theorem m_slim (args : List Val) (t : Tin) (h : slimV args t ≠ .bad) : r_slim args t = slimV args t := by
  unfold slimV at h ⊢
  split at h
  · rename_i a b
    split at h
    · rename_i hb
      rw [if_pos hb]
      have h0 := gcd_pos (a := a) hb.1
      have h1 := gcd_log (a := a) hb.1 hb.2
      have h2 : (0 : Int) ≤ b ∧ b < 2 ^ 4000 := ⟨Int.le_of_lt hb.1, hb.2⟩
      have e1 : gcdV [.int a, .int b] t = .ok (.int (Int.gcd a b)) t := if_pos h2
      refine runDef_rt rfl ?_
      refine (sSeq_nx (e' := [some (false, .int a), some (false, .int b), some (false, .int (Int.gcd a b))]) (t' := t) ?_).trans ?_
      · simp [Nf.eVar, Nf.eOwn, Nf.eC, Nf.eOp, Nf.eUn, Nf.aNil, Nf.aCons, Nf.eTup, Nf.eLst, Nf.eB, Nf.eCall, Nf.eIf, Nf.eTin, Nf.tru, Nf.eAnd, Nf.eOr, Nf.eNot, Nf.tTru, Nf.tBl, Nf.tAnd, Nf.tOr, Nf.tNot, Nf.tYes, Nf.gName, Nf.gsL, Nf.gTup, Nf.sNil, Nf.sSeq, Nf.sBad, Nf.sBreak, Nf.sCont, Nf.frzAll, Nf.sRet, Nf.sIf, Nf.sAsg, Nf.sAsgO, Nf.putAll, Nf.sPar, Nf.sDrop, Nf.ownL, Nf.putL, Nf.sApp, Nf.sSet, Nf.sTin, Nf.env0, Nf.runDef, Nf.oAdd, Nf.oSub, Nf.oMul, Nf.oDiv, Nf.oMod, Nf.uNeg, Nf.cNe, Nf.cEq, Nf.cLt, Nf.cLe, Nf.cGt, Nf.cGe, Nf.Val.data, Nf.dataL, Nf.Val.depth, Nf.depthL, Nf.veq, Nf.veqL, Nf.oIx, Nf.ixOf, Nf.bLen, Nf.bAbs, Nf.bInt, Nf.iSeq, Nf.items, Nf.gam, hb.1, e1]
      · refine sSeq_rt ?_
        simp only [sRet, frzAll, List.map_cons, List.map_nil, Option.map_some, eTup, aCons, eOp, eVar, List.getElem?_cons_zero, List.getElem?_cons_succ, Res.bind_ok, oDiv, h0, h1, ne_eq, not_false_eq_true, and_self, if_true, aNil, List.length_cons, List.length_nil]
        rfl
    · exact absurd rfl h
  · exact absurd rfl h

def r_times : List Val → M Val := runDef 2 2 (e_times (gam [(c_slim, g_slim)]))
abbrev g_times : List Val → M Val := timesV
theorem m_times (args : List Val) (t : Tin) (h : timesV args t ≠ .bad) : r_times args t = timesV args t := by
  unfold timesV at h ⊢
  split at h
  · rename_i a b c d
    split at h
    · rename_i hb
      rw [if_pos hb]
      obtain ⟨h1, h2, h3, h4, h5, h6⟩ := prodOk_iff hb
      have e1 : slimV [.int (a * c), .int (b * d)] t = .ok (pr (slimF (a * c) (b * d))) t := if_pos (prod_lt h2 h4 h5 h6)
      refine runDef_rt rfl (sSeq_rt ?_)
      simp [Nf.eVar, Nf.eOwn, Nf.eC, Nf.eOp, Nf.eUn, Nf.aNil, Nf.aCons, Nf.eTup, Nf.eLst, Nf.eB, Nf.eCall, Nf.eIf, Nf.eTin, Nf.tru, Nf.eAnd, Nf.eOr, Nf.eNot, Nf.tTru, Nf.tBl, Nf.tAnd, Nf.tOr, Nf.tNot, Nf.tYes, Nf.gName, Nf.gsL, Nf.gTup, Nf.sNil, Nf.sSeq, Nf.sBad, Nf.sBreak, Nf.sCont, Nf.frzAll, Nf.sRet, Nf.sIf, Nf.sAsg, Nf.sAsgO, Nf.putAll, Nf.sPar, Nf.sDrop, Nf.ownL, Nf.putL, Nf.sApp, Nf.sSet, Nf.sTin, Nf.env0, Nf.runDef, Nf.oAdd, Nf.oSub, Nf.oMul, Nf.oDiv, Nf.oMod, Nf.uNeg, Nf.cNe, Nf.cEq, Nf.cLt, Nf.cLe, Nf.cGt, Nf.cGe, Nf.Val.data, Nf.dataL, Nf.Val.depth, Nf.depthL, Nf.veq, Nf.veqL, Nf.oIx, Nf.ixOf, Nf.bLen, Nf.bAbs, Nf.bInt, Nf.iSeq, Nf.items, Nf.gam, sm_bits h1 h3, sm_bits h2 h4, e1]
    · exact absurd rfl h
  · exact absurd rfl h

def r_is_fraction : List Val → M Val := runDef 1 1 (e_is_fraction (gam [(c_is_long, g_is_long), (c_are_numbers, g_are_numbers), (c_common_of, g_common_of)]))
abbrev g_is_fraction : List Val → M Val := r_is_fraction
def r_primes_of : List Val → M Val := runDef 1 4 (e_primes_of (gam []))
abbrev g_primes_of : List Val → M Val := r_primes_of
def r_power_in : List Val → M Val := runDef 2 3 (e_power_in (gam []))
abbrev g_power_in : List Val → M Val := r_power_in
def r_is_poly : List Val → M Val := runDef 1 2 (e_is_poly (gam [(c_is_fraction, g_is_fraction)]))
abbrev g_is_poly : List Val → M Val := r_is_poly
def r_sure_poly : List Val → M Val := runDef 1 3 (e_sure_poly (gam [(c_tupled, g_tupled), (c_is_poly, g_is_poly)]))
abbrev g_sure_poly : List Val → M Val := r_sure_poly
def r_bare : List Val → M Val := runDef 1 2 (e_bare (gam []))
abbrev g_bare : List Val → M Val := r_bare
def r_scaled_in : List Val → M Val := runDef 2 3 (e_scaled_in (gam [(c_bare, g_bare), (c_times, g_times)]))
abbrev g_scaled_in : List Val → M Val := r_scaled_in
def r_whole_row : List Val → M Val := runDef 1 3 (e_whole_row (gam [(c_least_of, g_least_of)]))
abbrev g_whole_row : List Val → M Val := wholeV
theorem whole_for : ∀ (qs : List (Int × Int)) (p o : Option (Bool × Val)) (u v : Int) (t : Tin), lcmO qs u = some v →
    ∃ o', forLoop (Nf.gName 2) (sSeq (sAsg (Nf.gName 1) (eCall (gam [(c_least_of, g_least_of)]) c_least_of (aCons (eVar 1) (aCons (eOp oIx (eVar 2) (eC (.int 1))) aNil)))) sNil) (qs.map pr) [p, some (false, .int u), o] t = .nx [p, some (false, .int v), o'] t
  | [], p, o, u, v, t, h => by
    rw [lcmO_nil] at h; cases h
    exact ⟨o, rfl⟩
  | q :: qs, p, o, u, v, t, h => by
    rw [lcmO_cons] at h
    split at h
    · rename_i hb
      obtain ⟨o', ih⟩ := whole_for qs p (some (false, pr q)) _ v t h
      refine ⟨o', ?_⟩
      exact (forLoop_nx rfl ((sSeq_nx (sAsg_ok (eCall_ok (aCons_ok rfl (aCons_ok (eOp_ok rfl rfl rfl) rfl)) (leastV_O hb)) rfl)).trans rfl)).trans ih
    · cases h
theorem whole_comp : ∀ (qs : List (Int × Int)) (p : Option (Bool × Val)) (u : Int) (l : List Int) (t : Tin), rowO u qs = some l →
    compLoop (Nf.gName 2) Nf.tYes (eOp oMul (eOp oIx (eVar 2) (eC (.int 0))) (eOp oDiv (eVar 1) (eOp oIx (eVar 2) (eC (.int 1))))) [p, some (false, .int u), none] (qs.map pr) t = .ok (l.map Val.int) t
  | [], p, u, l, t, h => by cases h; rfl
  | q :: qs, p, u, l, t, h => by
    rw [rowO_cons] at h
    split at h
    · rename_i hb
      cases e : rowO u qs with
      | none => rw [e] at h; cases h
      | some l' =>
        rw [e] at h
        cases h
        simp only [Bool.and_eq_true, pos_iff] at hb
        obtain ⟨⟨⟨h1, h2⟩, h3⟩, h4⟩ := hb
        have d1 : oDiv (.int u) (.int q.2) = some (.int (u.fdiv q.2)) := by
          simp only [oDiv]
          rw [if_pos ⟨Int.ne_of_gt h1, Nat.lt_trans (sm_log h2) (by decide)⟩]
        have d2 : oMul (.int q.1) (.int (u.fdiv q.2)) = some (.int (q.1 * u.fdiv q.2)) := by
          simp only [oMul]
          rw [if_pos (sm_bits h3 h4)]
        exact compLoop_yes rfl (eOp_ok (eOp_ok rfl rfl rfl) (eOp_ok rfl (eOp_ok rfl rfl rfl) d1) d2) (whole_comp qs p u l' t e)
    · cases h

theorem m_whole_row (args : List Val) (t : Tin) (h : wholeV args t ≠ .bad) : r_whole_row args t = wholeV args t := by
  unfold wholeV at h ⊢
  split at h
  · rename_i ps
    cases e1 : pairsOf ps with
    | none => rw [e1] at h; exact absurd rfl h
    | some qs =>
      rw [e1] at h
      simp only at h ⊢
      by_cases hl : qs.length ≤ lim
      case neg => rw [if_neg hl] at h; exact absurd rfl h
      rw [if_pos hl] at h ⊢
      unfold wholeO at h ⊢
      cases e2 : lcmO qs 1 with
      | none => rw [e2] at h; exact absurd rfl h
      | some u =>
        rw [e2] at h
        simp only at h ⊢
        cases e3 : rowO u qs with
        | none => rw [e3] at h; exact absurd rfl h
        | some l =>
          simp only
          have e4 := pairsOf_eq e1
          subst e4
          obtain ⟨o', hf⟩ := whole_for qs (some (false, .tup (qs.map pr))) none 1 u t e2
          have hc := whole_comp qs (some (false, .tup (qs.map pr))) u l t e3
          refine runDef_rt rfl ?_
          refine (sSeq_nx (e' := [some (false, .tup (qs.map pr)), some (false, .int 1), none]) (t' := t) rfl).trans ?_
          refine (sSeq_nx (sFor_ok rfl hf)).trans ?_
          exact sSeq_ret (eTup_ok (vs := [.int u, .lst (l.map Val.int)]) (aCons_ok rfl (aCons_ok (eComp_ok rfl (by simpa using hl) hc) rfl)) (show 2 ≤ lim by decide))
  · exact absurd rfl h

def r_value_in : List Val → M Val := runDef 2 6 (e_value_in (gam [(c_whole_row, g_whole_row), (c_slim, g_slim)]))
abbrev g_value_in : List Val → M Val := valueInV
theorem horn_for : ∀ (l : List Int) (p u w o : Option (Bool × Val)) (n q r : Int) (t : Tin), hornO n l q = some r →
    ∃ o', forLoop (Nf.gName 5) (sSeq (sAsg (Nf.gName 4) (eOp oAdd (eOp oMul (eVar 4) (eVar 1)) (eVar 5))) sNil) (l.map Val.int) [p, some (false, .int n), u, w, some (false, .int q), o] t = .nx [p, some (false, .int n), u, w, some (false, .int r), o'] t
  | [], p, u, w, o, n, q, r, t, h => by
    rw [hornO_nil] at h; cases h
    exact ⟨o, rfl⟩
  | a :: l, p, u, w, o, n, q, r, t, h => by
    rw [hornO_cons] at h
    split at h
    · rename_i hb
      obtain ⟨o', ih⟩ := horn_for l p u w (some (false, .int a)) n _ r t h
      refine ⟨o', ?_⟩
      simp only [Bool.and_eq_true] at hb
      have d2 : oMul (.int q) (.int n) = some (.int (q * n)) := by
        simp only [oMul]
        rw [if_pos (sm_bits hb.1 hb.2)]
      exact (forLoop_nx rfl ((sSeq_nx (sAsg_ok (eOp_ok (eOp_ok rfl rfl d2) rfl rfl) rfl)).trans rfl)).trans ih
    · cases h

theorem m_value_in (args : List Val) (t : Tin) (h : valueInV args t ≠ .bad) : r_value_in args t = valueInV args t := by
  unfold valueInV at h ⊢
  split at h
  · rename_i ps n
    cases e1 : pairsOf ps with
    | none => rw [e1] at h; exact absurd rfl h
    | some qs =>
      rw [e1] at h
      simp only at h ⊢
      cases e2 : (if qs.length ≤ lim then wholeO qs else none) with
      | none => rw [e2] at h; exact absurd rfl h
      | some ul =>
        obtain ⟨u, l⟩ := ul
        rw [e2] at h
        simp only at h ⊢
        cases e3 : hornO n l.reverse 0 with
        | none => rw [e3] at h; exact absurd rfl h
        | some x =>
          rw [e3] at h
          simp only at h ⊢
          by_cases hb : 0 < u ∧ u < 2 ^ 4000
          case neg => rw [if_neg hb] at h; exact absurd rfl h
          rw [if_pos hb]
          have f1 : wholeV [.tup ps] t = .ok (.tup [.int u, .lst (l.map Val.int)]) t := by
            unfold wholeV
            simp only [e1, e2]
          have f2 : slimV [.int x, .int u] t = .ok (pr (slimF x u)) t := if_pos hb
          obtain ⟨o', hf⟩ := horn_for l.reverse (some (false, .tup ps)) (some (false, .int u)) (some (false, .lst (l.map Val.int))) none n 0 x t e3
          refine runDef_rt rfl ?_
          refine (sSeq_nx (e' := [some (false, .tup ps), some (false, .int n), some (false, .int u), some (false, .lst (l.map Val.int)), none, none]) (t' := t) (sAsg_ok (eCall_ok (aCons_ok rfl rfl) f1) rfl)).trans ?_
          refine (sSeq_nx (e' := [some (false, .tup ps), some (false, .int n), some (false, .int u), some (false, .lst (l.map Val.int)), some (false, .int 0), none]) (t' := t) rfl).trans ?_
          refine (sSeq_nx (sFor_ok (xs := l.reverse.map Val.int) (by rw [List.map_reverse]; rfl) hf)).trans ?_
          exact sSeq_ret (eCall_ok (aCons_ok rfl (aCons_ok rfl rfl)) f2)
  · exact absurd rfl h

def r_roots_product : List Val → M Val := runDef 1 5 (e_roots_product (gam []))
abbrev g_roots_product : List Val → M Val := r_roots_product
def r_is_all_whole : List Val → M Val := runDef 1 2 (e_is_all_whole (gam [(c_value_in, g_value_in)]))
abbrev g_is_all_whole : List Val → M Val := r_is_all_whole
def r_chosen_in : List Val → M Val := runDef 1 3 (e_chosen_in (gam [(c_scaled_in, g_scaled_in), (c_roots_product, g_roots_product)]))
abbrev g_chosen_in : List Val → M Val := r_chosen_in
def r_chosen_poly : List Val → M Val := runDef 1 1 (e_chosen_poly (gam [(c_chosen_in, g_chosen_in), (c_sure_within, g_sure_within)]))
abbrev g_chosen_poly : List Val → M Val := r_chosen_poly
def r_sure_rests : List Val → M Val := runDef 2 4 (e_sure_rests (gam [(c_sure_within, g_sure_within), (c_tupled, g_tupled), (c_are_numbers, g_are_numbers)]))
abbrev g_sure_rests : List Val → M Val := r_sure_rests
def r_power_of : List Val → M Val := runDef 2 4 (e_power_of (gam []))
abbrev g_power_of : List Val → M Val := r_power_of
def r_clash_in : List Val → M Val := runDef 2 6 (e_clash_in (gam [(c_primes_of, g_primes_of), (c_power_of, g_power_of), (c_power_in, g_power_in)]))
abbrev g_clash_in : List Val → M Val := r_clash_in
def r_reach_of : List Val → M Val := runDef 2 4 (e_reach_of (gam [(c_primes_of, g_primes_of), (c_power_in, g_power_in), (c_power_of, g_power_of)]))
abbrev g_reach_of : List Val → M Val := r_reach_of
def r_can_tell_rests : List Val → M Val := runDef 2 4 (e_can_tell_rests (gam [(c_sure_rests, g_sure_rests), (c_clash_in, g_clash_in)]))
abbrev g_can_tell_rests : List Val → M Val := r_can_tell_rests
def r_tells_rests : List Val → M Val := runDef 3 5 (e_tells_rests (gam [(c_is_all_whole, g_is_all_whole), (c_reach_of, g_reach_of), (c_is_poly, g_is_poly), (c_value_in, g_value_in)]))
abbrev g_tells_rests : List Val → M Val := r_tells_rests
def r_is_rests_poly : List Val → M Val := runDef 3 5 (e_is_rests_poly (gam [(c_sure_rests, g_sure_rests), (c_tells_rests, g_tells_rests), (c_clash_in, g_clash_in)]))
abbrev g_is_rests_poly : List Val → M Val := r_is_rests_poly
def r_sure_whole : List Val → M Val := runDef 1 2 (e_sure_whole (gam [(c_sure_poly, g_sure_poly), (c_is_all_whole, g_is_all_whole)]))
abbrev g_sure_whole : List Val → M Val := r_sure_whole
def r_long_round : List Val → M Val := runDef 2 6 (e_long_round (gam [(c_primes_of, g_primes_of), (c_power_of, g_power_of), (c_power_in, g_power_in)]))
abbrev g_long_round : List Val → M Val := r_long_round
def r_poly_rests : List Val → M Val := runDef 2 9 (e_poly_rests (gam [(c_sure_whole, g_sure_whole), (c_long_round, g_long_round), (c_sure_poly, g_sure_poly), (c_sure_within, g_sure_within), (c_value_in, g_value_in)]))
abbrev g_poly_rests : List Val → M Val := r_poly_rests
def r__law_box : List Val → M Val := runDef 2 3 (e__law_box (gam []))
abbrev g__law_box : List Val → M Val := r__law_box
def r__law_take : List Val → M Val := runDef 2 6 (e__law_take (gam []))
abbrev g__law_take : List Val → M Val := r__law_take
def r__law_cells : List Val → M Val := runDef 2 6 (e__law_cells (gam []))
abbrev g__law_cells : List Val → M Val := r__law_cells
def r__law_of : List Val → M Val := runDef 2 2 (e__law_of (gam [(c__law_take, g__law_take)]))
abbrev g__law_of : List Val → M Val := r__law_of
def r__law_same : Nat → List Val → M Val
  | 0 => fun _ _ => .bad
  | j + 1 => runDef 2 4 (e__law_same (gam ((c__law_same, r__law_same j) :: [])))
def g__law_same : List Val → M Val := r__law_same 8
def r__law_gcd : List Val → M Val := runDef 2 3 (e__law_gcd (gam []))
abbrev g__law_gcd : List Val → M Val := gcdL
theorem m__law_gcd (args : List Val) (t : Tin) (h : gcdL args t ≠ .bad) : r__law_gcd args t = gcdL args t := by
  unfold gcdL at h ⊢
  split at h
  · rename_i a b
    split at h
    · rename_i hb
      obtain ⟨o', hg⟩ := gcd_for 4000 (if a < 0 then -a else a) (if b < 0 then -b else b) none (rangeL 0 9000) t (by split <;> omega) (by split <;> omega)
        (by have h2 : (b.natAbs : Int) < ((2 ^ 4000 : Nat) : Int) := by exact_mod_cast hb
            have h3 : ((2 ^ 4000 : Nat) : Int) = (2 : Int) ^ 4000 := by simp
            rw [h3] at h2
            split <;> omega) (by simp [rangeL])
      rw [if_pos hb]
      have e0 : env0 3 [Val.int (if a < 0 then -a else a), Val.int (if b < 0 then -b else b)] = lv (if a < 0 then -a else a) (if b < 0 then -b else b) none := rfl
      have e1 : Int.gcd (if a < 0 then -a else a) (if b < 0 then -b else b) = Int.gcd a b := by
        split <;> split <;> simp
      have e3 : (sPar [(0, false), (1, false)] (aCons (eB bAbs (aCons (eVar 0) aNil)) (aCons (eB bAbs (aCons (eVar 1) aNil)) aNil))) (env0 3 [Val.int a, Val.int b]) t = .nx (lv (if a < 0 then -a else a) (if b < 0 then -b else b) none) t := by
        simp [Nf.eVar, Nf.eOwn, Nf.eC, Nf.eOp, Nf.eUn, Nf.aNil, Nf.aCons, Nf.eTup, Nf.eLst, Nf.eB, Nf.eCall, Nf.eIf, Nf.eTin, Nf.tru, Nf.eAnd, Nf.eOr, Nf.eNot, Nf.tTru, Nf.tBl, Nf.tAnd, Nf.tOr, Nf.tNot, Nf.tYes, Nf.gName, Nf.gsL, Nf.gTup, Nf.sNil, Nf.sSeq, Nf.sBad, Nf.sBreak, Nf.sCont, Nf.frzAll, Nf.sRet, Nf.sIf, Nf.sAsg, Nf.sAsgO, Nf.putAll, Nf.sPar, Nf.sDrop, Nf.ownL, Nf.putL, Nf.sApp, Nf.sSet, Nf.sTin, Nf.env0, Nf.runDef, Nf.oAdd, Nf.oSub, Nf.oMul, Nf.oDiv, Nf.oMod, Nf.uNeg, Nf.cNe, Nf.cEq, Nf.cLt, Nf.cLe, Nf.cGt, Nf.cGe, Nf.Val.data, Nf.dataL, Nf.Val.depth, Nf.depthL, Nf.veq, Nf.veqL, Nf.oIx, Nf.ixOf, Nf.bLen, Nf.bAbs, Nf.bInt, Nf.iSeq, Nf.items, Nf.gam, lv]
      have e4 : (sFor (iRange1 (aCons (eC (.int 9000)) aNil)) (Nf.gName 2) gcdBody) (lv (if a < 0 then -a else a) (if b < 0 then -b else b) none) t = .nx (lv (Int.gcd (if a < 0 then -a else a) (if b < 0 then -b else b)) 0 o') t := by
        rw [← hg]
        rfl
      refine runDef_rt rfl ?_
      refine (sSeq_nx e3).trans ((sSeq_nx e4).trans ?_)
      rw [e1]
      rfl
    · exact absurd rfl h
  · exact absurd rfl h

def r__law_slim : List Val → M Val := runDef 2 3 (e__law_slim (gam [(c__law_gcd, g__law_gcd)]))
abbrev g__law_slim : List Val → M Val := slimV
theorem m__law_slim (args : List Val) (t : Tin) (h : slimV args t ≠ .bad) : r__law_slim args t = slimV args t := by
  unfold slimV at h ⊢
  split at h
  · rename_i a b
    split at h
    · rename_i hb
      rw [if_pos hb]
      have h0 := gcd_pos (a := a) hb.1
      have h1 := gcd_log (a := a) hb.1 hb.2
      have h2 : b.natAbs < 2 ^ 4000 := by
        have h7 : ((b.natAbs : Nat) : Int) < ((2 ^ 4000 : Nat) : Int) := by
          have h3 : ((2 ^ 4000 : Nat) : Int) = (2 : Int) ^ 4000 := by simp
          rw [h3]; omega
        exact_mod_cast h7
      have e1 : gcdL [.int a, .int b] t = .ok (.int (Int.gcd a b)) t := if_pos h2
      refine runDef_rt rfl ?_
      refine (sSeq_nx (e' := [some (false, .int a), some (false, .int b), some (false, .int (Int.gcd a b))]) (t' := t) ?_).trans ?_
      · simp [Nf.eVar, Nf.eOwn, Nf.eC, Nf.eOp, Nf.eUn, Nf.aNil, Nf.aCons, Nf.eTup, Nf.eLst, Nf.eB, Nf.eCall, Nf.eIf, Nf.eTin, Nf.tru, Nf.eAnd, Nf.eOr, Nf.eNot, Nf.tTru, Nf.tBl, Nf.tAnd, Nf.tOr, Nf.tNot, Nf.tYes, Nf.gName, Nf.gsL, Nf.gTup, Nf.sNil, Nf.sSeq, Nf.sBad, Nf.sBreak, Nf.sCont, Nf.frzAll, Nf.sRet, Nf.sIf, Nf.sAsg, Nf.sAsgO, Nf.putAll, Nf.sPar, Nf.sDrop, Nf.ownL, Nf.putL, Nf.sApp, Nf.sSet, Nf.sTin, Nf.env0, Nf.runDef, Nf.oAdd, Nf.oSub, Nf.oMul, Nf.oDiv, Nf.oMod, Nf.uNeg, Nf.cNe, Nf.cEq, Nf.cLt, Nf.cLe, Nf.cGt, Nf.cGe, Nf.Val.data, Nf.dataL, Nf.Val.depth, Nf.depthL, Nf.veq, Nf.veqL, Nf.oIx, Nf.ixOf, Nf.bLen, Nf.bAbs, Nf.bInt, Nf.iSeq, Nf.items, Nf.gam, e1]
      · refine sSeq_rt ?_
        simp only [sRet, frzAll, List.map_cons, List.map_nil, Option.map_some, eIf, tBl, eC, cGt, eTup, aCons, eOp, eVar, List.getElem?_cons_zero, List.getElem?_cons_succ, Res.bind_ok, oDiv, h0, h1, hb.1, decide_true, ne_eq, not_false_eq_true, and_self, if_true, aNil, List.length_cons, List.length_nil]
        rfl
    · exact absurd rfl h
  · exact absurd rfl h

def r__law_plus : List Val → M Val := runDef 2 2 (e__law_plus (gam [(c__law_slim, g__law_slim)]))
abbrev g__law_plus : List Val → M Val := plusV
theorem m__law_plus (args : List Val) (t : Tin) (h : plusV args t ≠ .bad) : r__law_plus args t = plusV args t := by
  unfold plusV at h ⊢
  split at h
  · rename_i a b c d
    split at h
    · rename_i hb
      rw [if_pos hb]
      obtain ⟨h1, h2, h3, h4, h5, h6⟩ := prodOk_iff hb
      have e1 : slimV [.int (a * d + c * b), .int (b * d)] t = .ok (pr (slimF (a * d + c * b) (b * d))) t := if_pos (prod_lt h2 h4 h5 h6)
      refine runDef_rt rfl (sSeq_rt ?_)
      simp [Nf.eVar, Nf.eOwn, Nf.eC, Nf.eOp, Nf.eUn, Nf.aNil, Nf.aCons, Nf.eTup, Nf.eLst, Nf.eB, Nf.eCall, Nf.eIf, Nf.eTin, Nf.tru, Nf.eAnd, Nf.eOr, Nf.eNot, Nf.tTru, Nf.tBl, Nf.tAnd, Nf.tOr, Nf.tNot, Nf.tYes, Nf.gName, Nf.gsL, Nf.gTup, Nf.sNil, Nf.sSeq, Nf.sBad, Nf.sBreak, Nf.sCont, Nf.frzAll, Nf.sRet, Nf.sIf, Nf.sAsg, Nf.sAsgO, Nf.putAll, Nf.sPar, Nf.sDrop, Nf.ownL, Nf.putL, Nf.sApp, Nf.sSet, Nf.sTin, Nf.env0, Nf.runDef, Nf.oAdd, Nf.oSub, Nf.oMul, Nf.oDiv, Nf.oMod, Nf.uNeg, Nf.cNe, Nf.cEq, Nf.cLt, Nf.cLe, Nf.cGt, Nf.cGe, Nf.Val.data, Nf.dataL, Nf.Val.depth, Nf.depthL, Nf.veq, Nf.veqL, Nf.oIx, Nf.ixOf, Nf.bLen, Nf.bAbs, Nf.bInt, Nf.iSeq, Nf.items, Nf.gam, sm_bits h1 h4, sm_bits h3 h2, sm_bits h2 h4, e1]
    · exact absurd rfl h
  · exact absurd rfl h

def r__law_times : List Val → M Val := runDef 2 2 (e__law_times (gam [(c__law_slim, g__law_slim)]))
abbrev g__law_times : List Val → M Val := timesV
theorem m__law_times (args : List Val) (t : Tin) (h : timesV args t ≠ .bad) : r__law_times args t = timesV args t := by
  unfold timesV at h ⊢
  split at h
  · rename_i a b c d
    split at h
    · rename_i hb
      rw [if_pos hb]
      obtain ⟨h1, h2, h3, h4, h5, h6⟩ := prodOk_iff hb
      have e1 : slimV [.int (a * c), .int (b * d)] t = .ok (pr (slimF (a * c) (b * d))) t := if_pos (prod_lt h2 h4 h5 h6)
      refine runDef_rt rfl (sSeq_rt ?_)
      simp [Nf.eVar, Nf.eOwn, Nf.eC, Nf.eOp, Nf.eUn, Nf.aNil, Nf.aCons, Nf.eTup, Nf.eLst, Nf.eB, Nf.eCall, Nf.eIf, Nf.eTin, Nf.tru, Nf.eAnd, Nf.eOr, Nf.eNot, Nf.tTru, Nf.tBl, Nf.tAnd, Nf.tOr, Nf.tNot, Nf.tYes, Nf.gName, Nf.gsL, Nf.gTup, Nf.sNil, Nf.sSeq, Nf.sBad, Nf.sBreak, Nf.sCont, Nf.frzAll, Nf.sRet, Nf.sIf, Nf.sAsg, Nf.sAsgO, Nf.putAll, Nf.sPar, Nf.sDrop, Nf.ownL, Nf.putL, Nf.sApp, Nf.sSet, Nf.sTin, Nf.env0, Nf.runDef, Nf.oAdd, Nf.oSub, Nf.oMul, Nf.oDiv, Nf.oMod, Nf.uNeg, Nf.cNe, Nf.cEq, Nf.cLt, Nf.cLe, Nf.cGt, Nf.cGe, Nf.Val.data, Nf.dataL, Nf.Val.depth, Nf.depthL, Nf.veq, Nf.veqL, Nf.oIx, Nf.ixOf, Nf.bLen, Nf.bAbs, Nf.bInt, Nf.iSeq, Nf.items, Nf.gam, sm_bits h1 h3, sm_bits h2 h4, e1]
    · exact absurd rfl h
  · exact absurd rfl h

def r__law_thin : List Val → M Val := runDef 1 3 (e__law_thin (gam []))
abbrev g__law_thin : List Val → M Val := r__law_thin
def r__law_scale : List Val → M Val := runDef 2 3 (e__law_scale (gam [(c__law_thin, g__law_thin), (c__law_times, g__law_times)]))
abbrev g__law_scale : List Val → M Val := r__law_scale
def r__law_mul : List Val → M Val := runDef 2 7 (e__law_mul (gam [(c__law_thin, g__law_thin), (c__law_plus, g__law_plus), (c__law_times, g__law_times)]))
abbrev g__law_mul : List Val → M Val := r__law_mul
def r__law_value : List Val → M Val := runDef 2 4 (e__law_value (gam [(c__law_plus, g__law_plus), (c__law_times, g__law_times)]))
abbrev g__law_value : List Val → M Val := valueV
theorem value_for : ∀ (qs : List (Int × Int)) (n : Int) (p o : Option (Bool × Val)) (q r : Int × Int) (t : Tin), valueO n qs q = some r →
    ∃ o', forLoop (Nf.gName 3) (sSeq (sAsg (Nf.gName 2) (eCall (gam [(c__law_plus, g__law_plus), (c__law_times, g__law_times)]) c__law_plus (aCons (eCall (gam [(c__law_plus, g__law_plus), (c__law_times, g__law_times)]) c__law_times (aCons (eVar 2) (aCons (eTup (aCons (eVar 1) (aCons (eC (.int 1)) aNil))) aNil))) (aCons (eVar 3) aNil)))) sNil) (qs.map pr) [p, some (false, .int n), some (false, pr q), o] t = .nx [p, some (false, .int n), some (false, pr r), o'] t
  | [], n, p, o, q, r, t, h => by
    rw [valueO_nil] at h; cases h
    exact ⟨o, rfl⟩
  | a :: qs, n, p, o, q, r, t, h => by
    rw [valueO_cons] at h
    cases e1 : timesO q (n, 1) with
    | none => rw [e1] at h; cases h
    | some q1 =>
      rw [e1] at h
      simp only at h
      cases e2 : plusO q1 a with
      | none => rw [e2] at h; cases h
      | some q2 =>
        rw [e2] at h
        simp only at h
        obtain ⟨o', ih⟩ := value_for qs n p (some (false, pr a)) q2 r t h
        refine ⟨o', ?_⟩
        have f1 : timesV [pr q, .tup [.int n, .int 1]] t = .ok (pr q1) t := timesV_O e1
        have f2 : plusV [pr q1, pr a] t = .ok (pr q2) t := plusV_O e2
        exact (forLoop_nx rfl ((sSeq_nx (sAsg_ok (eCall_ok (aCons_ok (eCall_ok (aCons_ok rfl (aCons_ok (eTup_ok (vs := [.int n, .int 1]) rfl (show 2 ≤ lim by decide)) rfl)) f1) (aCons_ok rfl rfl)) f2) rfl)).trans rfl)).trans ih

theorem m__law_value (args : List Val) (t : Tin) (h : valueV args t ≠ .bad) : r__law_value args t = valueV args t := by
  unfold valueV at h ⊢
  split at h
  · rename_i ps n
    cases e1 : pairsOf ps with
    | none => rw [e1] at h; exact absurd rfl h
    | some qs =>
      rw [e1] at h
      simp only at h ⊢
      cases e2 : valueO n qs.reverse (0, 1) with
      | none => rw [e2] at h; exact absurd rfl h
      | some r =>
        simp only
        have e3 := pairsOf_eq e1
        subst e3
        obtain ⟨o', hf⟩ := value_for qs.reverse n (some (false, .tup (qs.map pr))) none (0, 1) r t e2
        refine runDef_rt rfl ?_
        refine (sSeq_nx (e' := [some (false, .tup (qs.map pr)), some (false, .int n), some (false, pr (0, 1)), none]) (t' := t) (by simp [Nf.eVar, Nf.eOwn, Nf.eC, Nf.eOp, Nf.eUn, Nf.aNil, Nf.aCons, Nf.eTup, Nf.eLst, Nf.eB, Nf.eCall, Nf.eIf, Nf.eTin, Nf.tru, Nf.eAnd, Nf.eOr, Nf.eNot, Nf.tTru, Nf.tBl, Nf.tAnd, Nf.tOr, Nf.tNot, Nf.tYes, Nf.gName, Nf.gsL, Nf.gTup, Nf.sNil, Nf.sSeq, Nf.sBad, Nf.sBreak, Nf.sCont, Nf.frzAll, Nf.sRet, Nf.sIf, Nf.sAsg, Nf.sAsgO, Nf.putAll, Nf.sPar, Nf.sDrop, Nf.ownL, Nf.putL, Nf.sApp, Nf.sSet, Nf.sTin, Nf.env0, Nf.runDef, Nf.oAdd, Nf.oSub, Nf.oMul, Nf.oDiv, Nf.oMod, Nf.uNeg, Nf.cNe, Nf.cEq, Nf.cLt, Nf.cLe, Nf.cGt, Nf.cGe, Nf.Val.data, Nf.dataL, Nf.Val.depth, Nf.depthL, Nf.veq, Nf.veqL, Nf.oIx, Nf.ixOf, Nf.bLen, Nf.bAbs, Nf.bInt, Nf.iSeq, Nf.items, Nf.gam, lim])).trans ?_
        refine (sSeq_nx (e' := [some (false, .tup (qs.map pr)), some (false, .int n), some (false, pr r), o']) (t' := t) ?_).trans ?_
        · rw [← hf, List.map_reverse]
          rfl
        · refine sSeq_rt ?_
          simp [Nf.eVar, Nf.eOwn, Nf.eC, Nf.eOp, Nf.eUn, Nf.aNil, Nf.aCons, Nf.eTup, Nf.eLst, Nf.eB, Nf.eCall, Nf.eIf, Nf.eTin, Nf.tru, Nf.eAnd, Nf.eOr, Nf.eNot, Nf.tTru, Nf.tBl, Nf.tAnd, Nf.tOr, Nf.tNot, Nf.tYes, Nf.gName, Nf.gsL, Nf.gTup, Nf.sNil, Nf.sSeq, Nf.sBad, Nf.sBreak, Nf.sCont, Nf.frzAll, Nf.sRet, Nf.sIf, Nf.sAsg, Nf.sAsgO, Nf.putAll, Nf.sPar, Nf.sDrop, Nf.ownL, Nf.putL, Nf.sApp, Nf.sSet, Nf.sTin, Nf.env0, Nf.runDef, Nf.oAdd, Nf.oSub, Nf.oMul, Nf.oDiv, Nf.oMod, Nf.uNeg, Nf.cNe, Nf.cEq, Nf.cLt, Nf.cLe, Nf.cGt, Nf.cGe, Nf.Val.data, Nf.dataL, Nf.Val.depth, Nf.depthL, Nf.veq, Nf.veqL, Nf.oIx, Nf.ixOf, Nf.bLen, Nf.bAbs, Nf.bInt, Nf.iSeq, Nf.items, Nf.gam, sRet]
  · exact absurd rfl h

def r__law_roots : List Val → M Val := runDef 1 3 (e__law_roots (gam [(c__law_mul, g__law_mul)]))
abbrev g__law_roots : List Val → M Val := r__law_roots
def r__law_chosen : List Val → M Val := runDef 1 3 (e__law_chosen (gam [(c__law_scale, g__law_scale), (c__law_roots, g__law_roots)]))
abbrev g__law_chosen : List Val → M Val := r__law_chosen
def r__law_few : List Val → M Val := runDef 2 4 (e__law_few (gam []))
abbrev g__law_few : List Val → M Val := r__law_few
def r__law_due : List Val → M Val := runDef 3 5 (e__law_due (gam [(c__law_few, g__law_few)]))
abbrev g__law_due : List Val → M Val := r__law_due
def r__law_right : List Val → M Val := runDef 1 9 (e__law_right (gam [(c__law_of, g__law_of), (c__law_take, g__law_take), (c_chosen_poly, g_chosen_poly), (c_poly_rests, g_poly_rests), (c__law_chosen, g__law_chosen), (c__law_due, g__law_due), (c__law_same, g__law_same), (c_can_tell_rests, g_can_tell_rests), (c_is_rests_poly, g_is_rests_poly), (c__law_value, g__law_value)]))
abbrev g__law_right : List Val → M Val := r__law_right
theorem o_is_number (c : Cn fa fn tu K mg) : FO P w K mg base 1 "is_number" ["thing"] g_is_number := k_is_number (k := 0) c (gam [])
theorem o_is_within (c : Cn fa fn tu K mg) : FO P w K mg base 2 "is_within" ["thing", "least", "most"] g_is_within := k_is_within (k := 1) c (gam [(c_is_number, g_is_number)]) ((o_is_number c).mono (by decide))
theorem o_sure_within (c : Cn fa fn tu K mg) : FO P w K mg base 3 "sure_within" ["thing", "least", "most"] g_sure_within := k_sure_within (k := 2) c (gam [(c_is_within, g_is_within)]) ((o_is_within c).mono (by decide))
theorem o_is_long (c : Cn fa fn tu K mg) : FO P w K mg base 1 "is_long" ["thing", "length"] g_is_long := k_is_long (k := 0) c (gam [])
theorem o_are_numbers (c : Cn fa fn tu K mg) : FO P w K mg base 2 "are_numbers" ["thing"] g_are_numbers := k_are_numbers (k := 1) c (gam [(c_is_number, g_is_number)]) ((o_is_number c).mono (by decide))
theorem or_tupled (c : Cn fa fn tu K mg) : ∀ j, FO P w K mg base (1 + j) "tupled" ["value"] (r_tupled j)
  | 0 => ⟨fun vs H Q E h => by obtain ⟨_, _, _, _, _, _, h⟩ := h; exact h.elim, fun A outer s H args us vs Q E _ _ _ _ h => by obtain ⟨_, _, _, _, _, _, h⟩ := h; exact h.elim⟩
  | j + 1 => k_tupled (k := 1 + j) c (gam ((c_tupled, r_tupled j) :: [])) (or_tupled c j)
theorem o_tupled (c : Cn fa fn tu K mg) : FO P w K mg base 9 "tupled" ["value"] g_tupled := or_tupled c 8
theorem o_common_of (c : Cn fa fn tu K mg) : FO P w K mg base 1 "common_of" ["one", "other"] g_common_of := FnOk.imp (k_common_of (k := 0) c (gam [])) (spOf_imp m_common_of)
theorem o_least_of (c : Cn fa fn tu K mg) : FO P w K mg base 2 "least_of" ["one", "other"] g_least_of := FnOk.imp (k_least_of (k := 1) c (gam [(c_common_of, g_common_of)]) ((o_common_of c).mono (by decide))) (spOf_imp m_least_of)
theorem o_slim (c : Cn fa fn tu K mg) : FO P w K mg base 2 "slim" ["over", "under"] g_slim := FnOk.imp (k_slim (k := 1) c (gam [(c_common_of, g_common_of)]) ((o_common_of c).mono (by decide))) (spOf_imp m_slim)
theorem o_times (c : Cn fa fn tu K mg) : FO P w K mg base 3 "times" ["one", "other"] g_times := FnOk.imp (k_times (k := 2) c (gam [(c_slim, g_slim)]) ((o_slim c).mono (by decide))) (spOf_imp m_times)
theorem o_is_fraction (c : Cn fa fn tu K mg) : FO P w K mg base 3 "is_fraction" ["thing"] g_is_fraction := k_is_fraction (k := 2) c (gam [(c_is_long, g_is_long), (c_are_numbers, g_are_numbers), (c_common_of, g_common_of)]) ((o_is_long c).mono (by decide)) ((o_are_numbers c).mono (by decide)) ((o_common_of c).mono (by decide))
theorem o_primes_of (c : Cn fa fn tu K mg) : FO P w K mg base 1 "primes_of" ["number"] g_primes_of := k_primes_of (k := 0) c (gam [])
theorem o_power_in (c : Cn fa fn tu K mg) : FO P w K mg base 1 "power_in" ["number", "prime"] g_power_in := k_power_in (k := 0) c (gam [])
theorem o_is_poly (c : Cn fa fn tu K mg) : FO P w K mg base 4 "is_poly" ["thing"] g_is_poly := k_is_poly (k := 3) c (gam [(c_is_fraction, g_is_fraction)]) ((o_is_fraction c).mono (by decide))
theorem o_sure_poly (c : Cn fa fn tu K mg) : FO P w K mg base 10 "sure_poly" ["value"] g_sure_poly := k_sure_poly (k := 9) c (gam [(c_tupled, g_tupled), (c_is_poly, g_is_poly)]) ((o_tupled c).mono (by decide)) ((o_is_poly c).mono (by decide))
theorem o_bare (c : Cn fa fn tu K mg) : FO P w K mg base 1 "bare" ["row"] g_bare := k_bare (k := 0) c (gam [])
theorem o_scaled_in (c : Cn fa fn tu K mg) : FO P w K mg base 4 "scaled_in" ["poly", "by"] g_scaled_in := k_scaled_in (k := 3) c (gam [(c_bare, g_bare), (c_times, g_times)]) ((o_bare c).mono (by decide)) ((o_times c).mono (by decide))
theorem o_whole_row (c : Cn fa fn tu K mg) : FO P w K mg base 3 "whole_row" ["poly"] g_whole_row := FnOk.imp (k_whole_row (k := 2) c (gam [(c_least_of, g_least_of)]) ((o_least_of c).mono (by decide))) (spOf_imp m_whole_row)
theorem o_value_in (c : Cn fa fn tu K mg) : FO P w K mg base 4 "value_in" ["poly", "number"] g_value_in := FnOk.imp (k_value_in (k := 3) c (gam [(c_whole_row, g_whole_row), (c_slim, g_slim)]) ((o_whole_row c).mono (by decide)) ((o_slim c).mono (by decide))) (spOf_imp m_value_in)
theorem o_roots_product (c : Cn fa fn tu K mg) : FO P w K mg base 1 "roots_product" ["numbers"] g_roots_product := k_roots_product (k := 0) c (gam [])
theorem o_is_all_whole (c : Cn fa fn tu K mg) : FO P w K mg base 5 "is_all_whole" ["poly"] g_is_all_whole := k_is_all_whole (k := 4) c (gam [(c_value_in, g_value_in)]) ((o_value_in c).mono (by decide))
theorem o_chosen_in (c : Cn fa fn tu K mg) : FO P w K mg base 5 "chosen_in" ["number"] g_chosen_in := k_chosen_in (k := 4) c (gam [(c_scaled_in, g_scaled_in), (c_roots_product, g_roots_product)]) ((o_scaled_in c).mono (by decide)) ((o_roots_product c).mono (by decide))
theorem o_chosen_poly (c : Cn fa fn tu K mg) : FO P w K mg base 6 "chosen_poly" ["number"] g_chosen_poly := k_chosen_poly (k := 5) c (gam [(c_chosen_in, g_chosen_in), (c_sure_within, g_sure_within)]) ((o_chosen_in c).mono (by decide)) ((o_sure_within c).mono (by decide))
theorem o_sure_rests (c : Cn fa fn tu K mg) : FO P w K mg base 10 "sure_rests" ["by", "rests"] g_sure_rests := k_sure_rests (k := 9) c (gam [(c_sure_within, g_sure_within), (c_tupled, g_tupled), (c_are_numbers, g_are_numbers)]) ((o_tupled c).mono (by decide)) ((o_sure_within c).mono (by decide)) ((o_are_numbers c).mono (by decide))
theorem o_power_of (c : Cn fa fn tu K mg) : FO P w K mg base 1 "power_of" ["prime", "many"] g_power_of := k_power_of (k := 0) c (gam [])
theorem o_clash_in (c : Cn fa fn tu K mg) : FO P w K mg base 2 "clash_in" ["by", "row"] g_clash_in := k_clash_in (k := 1) c (gam [(c_primes_of, g_primes_of), (c_power_of, g_power_of), (c_power_in, g_power_in)]) ((o_primes_of c).mono (by decide)) ((o_power_of c).mono (by decide)) ((o_power_in c).mono (by decide))
theorem o_reach_of (c : Cn fa fn tu K mg) : FO P w K mg base 2 "reach_of" ["by", "long"] g_reach_of := k_reach_of (k := 1) c (gam [(c_primes_of, g_primes_of), (c_power_in, g_power_in), (c_power_of, g_power_of)]) ((o_primes_of c).mono (by decide)) ((o_power_in c).mono (by decide)) ((o_power_of c).mono (by decide))
theorem o_can_tell_rests (c : Cn fa fn tu K mg) : FO P w K mg base 11 "can_tell_rests" ["by", "rests"] g_can_tell_rests := k_can_tell_rests (k := 10) c (gam [(c_sure_rests, g_sure_rests), (c_clash_in, g_clash_in)]) ((o_sure_rests c).mono (by decide)) ((o_clash_in c).mono (by decide))
theorem o_tells_rests (c : Cn fa fn tu K mg) : FO P w K mg base 6 "tells_rests" ["by", "row", "thing"] g_tells_rests := k_tells_rests (k := 5) c (gam [(c_is_all_whole, g_is_all_whole), (c_reach_of, g_reach_of), (c_is_poly, g_is_poly), (c_value_in, g_value_in)]) ((o_is_poly c).mono (by decide)) ((o_is_all_whole c).mono (by decide)) ((o_reach_of c).mono (by decide)) ((o_value_in c).mono (by decide))
theorem o_is_rests_poly (c : Cn fa fn tu K mg) : FO P w K mg base 11 "is_rests_poly" ["by", "rests", "thing"] g_is_rests_poly := k_is_rests_poly (k := 10) c (gam [(c_sure_rests, g_sure_rests), (c_tells_rests, g_tells_rests), (c_clash_in, g_clash_in)]) ((o_sure_rests c).mono (by decide)) ((o_clash_in c).mono (by decide)) ((o_tells_rests c).mono (by decide))
theorem o_sure_whole (c : Cn fa fn tu K mg) : FO P w K mg base 11 "sure_whole" ["poly"] g_sure_whole := k_sure_whole (k := 10) c (gam [(c_sure_poly, g_sure_poly), (c_is_all_whole, g_is_all_whole)]) ((o_sure_poly c).mono (by decide)) ((o_is_all_whole c).mono (by decide))
theorem o_long_round (c : Cn fa fn tu K mg) : FO P w K mg base 2 "long_round" ["by", "degree"] g_long_round := k_long_round (k := 1) c (gam [(c_primes_of, g_primes_of), (c_power_of, g_power_of), (c_power_in, g_power_in)]) ((o_primes_of c).mono (by decide)) ((o_power_of c).mono (by decide)) ((o_power_in c).mono (by decide))
theorem o_poly_rests (c : Cn fa fn tu K mg) : FO P w K mg base 12 "poly_rests" ["poly", "by"] g_poly_rests := k_poly_rests (k := 11) c (gam [(c_sure_whole, g_sure_whole), (c_long_round, g_long_round), (c_sure_poly, g_sure_poly), (c_sure_within, g_sure_within), (c_value_in, g_value_in)]) ((o_sure_within c).mono (by decide)) ((o_sure_poly c).mono (by decide)) ((o_sure_whole c).mono (by decide)) ((o_long_round c).mono (by decide)) ((o_value_in c).mono (by decide))
theorem o__law_box (c : Cn fa fn tu K mg) : FO P w K mg base 1 "_law_box" ["script", "k"] g__law_box := k__law_box (k := 0) c (gam [])
theorem o__law_take (c : Cn fa fn tu K mg) : FO P w K mg base 1 "_law_take" ["tin", "below_so"] g__law_take := k__law_take (k := 0) c (gam [])
theorem o__law_cells (c : Cn fa fn tu K mg) : FO P w K mg base 1 "_law_cells" ["script", "most_so"] g__law_cells := k__law_cells (k := 0) c (gam [])
theorem o__law_of (c : Cn fa fn tu K mg) : FO P w K mg base 2 "_law_of" ["tin", "goods_so"] g__law_of := k__law_of (k := 1) c (gam [(c__law_take, g__law_take)]) ((o__law_take c).mono (by decide))
theorem or__law_same (c : Cn fa fn tu K mg) : ∀ j, FO P w K mg base (1 + j) "_law_same" ["got", "due"] (r__law_same j)
  | 0 => ⟨fun vs H Q E h => by obtain ⟨_, _, _, _, _, _, h⟩ := h; exact h.elim, fun A outer s H args us vs Q E _ _ _ _ h => by obtain ⟨_, _, _, _, _, _, h⟩ := h; exact h.elim⟩
  | j + 1 => k__law_same (k := 1 + j) c (gam ((c__law_same, r__law_same j) :: [])) (or__law_same c j)
theorem o__law_same (c : Cn fa fn tu K mg) : FO P w K mg base 9 "_law_same" ["got", "due"] g__law_same := or__law_same c 8
theorem o__law_gcd (c : Cn fa fn tu K mg) : FO P w K mg base 1 "_law_gcd" ["one", "two"] g__law_gcd := FnOk.imp (k__law_gcd (k := 0) c (gam [])) (spOf_imp m__law_gcd)
theorem o__law_slim (c : Cn fa fn tu K mg) : FO P w K mg base 2 "_law_slim" ["over", "under"] g__law_slim := FnOk.imp (k__law_slim (k := 1) c (gam [(c__law_gcd, g__law_gcd)]) ((o__law_gcd c).mono (by decide))) (spOf_imp m__law_slim)
theorem o__law_plus (c : Cn fa fn tu K mg) : FO P w K mg base 3 "_law_plus" ["one", "two"] g__law_plus := FnOk.imp (k__law_plus (k := 2) c (gam [(c__law_slim, g__law_slim)]) ((o__law_slim c).mono (by decide))) (spOf_imp m__law_plus)
theorem o__law_times (c : Cn fa fn tu K mg) : FO P w K mg base 3 "_law_times" ["one", "two"] g__law_times := FnOk.imp (k__law_times (k := 2) c (gam [(c__law_slim, g__law_slim)]) ((o__law_slim c).mono (by decide))) (spOf_imp m__law_times)
theorem o__law_thin (c : Cn fa fn tu K mg) : FO P w K mg base 1 "_law_thin" ["row_so"] g__law_thin := k__law_thin (k := 0) c (gam [])
theorem o__law_scale (c : Cn fa fn tu K mg) : FO P w K mg base 4 "_law_scale" ["poly_so", "by_so"] g__law_scale := k__law_scale (k := 3) c (gam [(c__law_thin, g__law_thin), (c__law_times, g__law_times)]) ((o__law_thin c).mono (by decide)) ((o__law_times c).mono (by decide))
theorem o__law_mul (c : Cn fa fn tu K mg) : FO P w K mg base 4 "_law_mul" ["one", "two"] g__law_mul := k__law_mul (k := 3) c (gam [(c__law_thin, g__law_thin), (c__law_plus, g__law_plus), (c__law_times, g__law_times)]) ((o__law_plus c).mono (by decide)) ((o__law_times c).mono (by decide)) ((o__law_thin c).mono (by decide))
theorem o__law_value (c : Cn fa fn tu K mg) : FO P w K mg base 4 "_law_value" ["poly_so", "number_so"] g__law_value := FnOk.imp (k__law_value (k := 3) c (gam [(c__law_plus, g__law_plus), (c__law_times, g__law_times)]) ((o__law_plus c).mono (by decide)) ((o__law_times c).mono (by decide))) (spOf_imp m__law_value)
theorem o__law_roots (c : Cn fa fn tu K mg) : FO P w K mg base 5 "_law_roots" ["numbers_so"] g__law_roots := k__law_roots (k := 4) c (gam [(c__law_mul, g__law_mul)]) ((o__law_mul c).mono (by decide))
theorem o__law_chosen (c : Cn fa fn tu K mg) : FO P w K mg base 6 "_law_chosen" ["many_so"] g__law_chosen := k__law_chosen (k := 5) c (gam [(c__law_scale, g__law_scale), (c__law_roots, g__law_roots)]) ((o__law_scale c).mono (by decide)) ((o__law_roots c).mono (by decide))
theorem o__law_few (c : Cn fa fn tu K mg) : FO P w K mg base 1 "_law_few" ["many_so", "k"] g__law_few := k__law_few (k := 0) c (gam [])
theorem o__law_due (c : Cn fa fn tu K mg) : FO P w K mg base 2 "_law_due" ["many_so", "k", "prime_so"] g__law_due := k__law_due (k := 1) c (gam [(c__law_few, g__law_few)]) ((o__law_few c).mono (by decide))
theorem o__law_right (c : Cn fa fn tu K mg) : FO P w K mg base 13 "_law_right" ["tin"] g__law_right := k__law_right (k := 12) c (gam [(c__law_of, g__law_of), (c__law_take, g__law_take), (c_chosen_poly, g_chosen_poly), (c_poly_rests, g_poly_rests), (c__law_chosen, g__law_chosen), (c__law_due, g__law_due), (c__law_same, g__law_same), (c_can_tell_rests, g_can_tell_rests), (c_is_rests_poly, g_is_rests_poly), (c__law_value, g__law_value)]) ((o__law_of c).mono (by decide)) ((o__law_take c).mono (by decide)) ((o_chosen_poly c).mono (by decide)) ((o__law_chosen c).mono (by decide)) ((o_poly_rests c).mono (by decide)) ((o__law_due c).mono (by decide)) ((o__law_same c).mono (by decide)) ((o__law_value c).mono (by decide)) ((o_can_tell_rests c).mono (by decide)) ((o_is_rests_poly c).mono (by decide))
abbrev GL : Gam := gam [(c__law_box, g__law_box), (c__law_cells, g__law_cells), (c__law_right, g__law_right)]
theorem o_law (c : Cn fa fn tu K mg) : FnOk P w K mg base CX0 14 (He.ga K "law") (fdOf K (He.ga K "law")) ["script"] (spLaw K (lawRun (e_tin GL) (e_all GL) 3)) := k_law (k := 13) c GL ((o__law_box c).mono (by decide)) ((o__law_cells c).mono (by decide)) ((o__law_right c).mono (by decide))
end
end NfLaw

namespace NfLaw
open PySem PySem.Spec PyProof.Rows L2 Nf
/-! ### the draws -/
theorem mul_ok {i j : Int} (h : bitsOk i j = true) : oMul (.int i) (.int j) = some (.int (i * j)) := by simp only [oMul]; rw [if_pos h]
theorem mod_ok {i j : Int} (h : j ≠ 0) : oMod (.int i) (.int j) = some (.int (i.fmod j)) := by simp only [oMod]; rw [if_pos h]
theorem div_ok {i j : Int} (h : j ≠ 0) (h2 : j.natAbs.log2 < 9000) : oDiv (.int i) (.int j) = some (.int (i.fdiv j)) := by simp only [oDiv]; rw [if_pos ⟨h, h2⟩]
theorem eB_ok {op : List Val → Option Val} {a : A} {env : Nf.Env} {t t1 : Tin} {vs : List Val} {v : Val} (h : a env t = .ok vs t1) (g : op vs = some v) : Nf.eB op a env t = .ok v t1 := by
  unfold Nf.eB; rw [h, Res.bind_ok, g]
theorem eUn_ok {op : Val → Option Val} {f : E} {env : Nf.Env} {t t1 : Tin} {v w : Val} (h : f env t = .ok v t1) (g : op v = some w) : Nf.eUn op f env t = .ok w t1 := by
  unfold Nf.eUn; rw [h, Res.bind_ok, g]
theorem sIf_t {c : Nf.T} {a b : Nf.S} {env : Nf.Env} {t t1 : Tin} (h : c env t = .ok true t1) : Nf.sIf c a b env t = a env t1 := by unfold Nf.sIf; rw [h]; rfl
theorem sIf_f {c : Nf.T} {a b : Nf.S} {env : Nf.Env} {t t1 : Tin} (h : c env t = .ok false t1) : Nf.sIf c a b env t = b env t1 := by unfold Nf.sIf; rw [h]; rfl
theorem natAbs_lt {x : Int} {n : Nat} (h : -((2 ^ n : Nat) : Int) < x) (h2 : x < ((2 ^ n : Nat) : Int)) : x.natAbs < 2 ^ n := by omega
theorem log_le {x : Int} {n : Nat} (h : x.natAbs < 2 ^ n) (hn : 0 < n) : x.natAbs.log2 < n := by
  by_cases e : x.natAbs = 0
  · rw [e]; exact hn
  · exact (Nat.log2_lt e).mpr h
theorem bits2 {x y : Int} {m n : Nat} (h : x.natAbs < 2 ^ m) (g : y.natAbs < 2 ^ n) (hm : 0 < m) (hn : 0 < n) (hs : m + n < 134000000) : bitsOk x y = true := by
  have h1 := log_le h hm
  have h2 := log_le g hn
  exact decide_eq_true (by omega)
structure Good (n : Nat) (t : Tin) : Prop where
  b0 : 0 ≤ t.b
  b1 : t.b < 4611686018427387904
  c0 : 0 ≤ t.c
  c1 : t.c + n ≤ 1000000
theorem take_ok {n : Nat} {t : Tin} {below : Int} (g : Good (n + 1) t) (h0 : 0 < below) (h1 : below < 1000000000000) : ∃ d t', g__law_take [.tin, .int below] t = .ok (.int d) t' ∧ 0 ≤ d ∧ d < below ∧ Good n t' := by
  obtain ⟨b0, b1, c0, c1⟩ := g
  have hb : below ≠ 0 := by omega
  have fm : ∀ x y : Int, 0 < y → 0 ≤ x.fmod y ∧ x.fmod y < y := fun x y hy => by
    rw [Int.fmod_eq_emod_of_nonneg x (Int.le_of_lt hy)]
    exact ⟨Int.emod_nonneg x (by omega), Int.emod_lt_of_pos x hy⟩
  by_cases ha : 0 < t.a
  · refine ⟨t.a.fmod below, { t with a := t.a.fdiv below }, ?_, (fm _ _ h0).1, (fm _ _ h0).2, ⟨b0, b1, c0, by simp at c1 ⊢; omega⟩⟩
    have hl : below.natAbs.log2 < 9000 := Nat.lt_of_lt_of_le (log_le (n := 40) (by omega) (by decide)) (by decide)
    have hc : tBl (eOp cGt (eTin 0 0) (eC (.int 0))) (env0 6 [.tin, .int below]) t = .ok true t := by
      show Res.ok (decide (0 < t.a)) t = _
      rw [decide_eq_true ha]
    refine runDef_rt rfl (sSeq_rt ?_)
    refine (sIf_t hc).trans ?_
    refine (sSeq_nx (sAsg_ok (eOp_ok (eB_ok (aCons_ok rfl rfl) rfl) rfl (mod_ok hb)) rfl)).trans ?_
    refine (sSeq_nx (e' := [some (false, .tin), some (false, .int below), some (false, .int (t.a.fmod below)), none, none, none]) (t' := { t with a := t.a.fdiv below }) ?_).trans rfl
    show (eOp oDiv (eTin 0 0) (eVar 1) _ t).toS _ = _
    rw [eOp_ok (z := .int (t.a.fdiv below)) (t2 := t) rfl rfl (div_ok hb hl)]
    rfl
  · have hc : tBl (eOp cGt (eTin 0 0) (eC (.int 0))) (env0 6 [.tin, .int below]) t = .ok false t := by
      show Res.ok (decide (0 < t.a)) t = _
      rw [decide_eq_false ha]
    have p62 : (4611686018427387904 : Int) = ((2 ^ 62 : Nat) : Int) := by decide
    have m1 : bitsOk 48271 (t.c + 1) = true := bits2 (m := 20) (n := 30) (by decide) (by simp at c1; omega) (by decide) (by decide) (by decide)
    have m2 : bitsOk (t.b + 48271 * (t.c + 1)) (39373 + (t.c + 1)) = true := bits2 (m := 70) (n := 30) (by simp at c1; omega) (by simp at c1; omega) (by decide) (by decide) (by decide)
    have e1 := fm ((t.b + 48271 * (t.c + 1)) * (39373 + (t.c + 1))) 2147483647 (by decide)
    generalize hx : ((t.b + 48271 * (t.c + 1)) * (39373 + (t.c + 1))).fmod 2147483647 = once at e1
    have e2 := fm once 40009 (by decide)
    have e3 : 0 ≤ t.b.fdiv 1000003 ∧ t.b.fdiv 1000003 ≤ t.b := by
      rw [Int.fdiv_eq_ediv_of_nonneg _ (by decide)]
      omega
    have m3 : bitsOk (once + (t.c + 1) + t.b.fdiv 1000003) (once.fmod 40009 + 7) = true := bits2 (m := 70) (n := 30) (by simp at c1; omega) (by omega) (by decide) (by decide) (by decide)
    have e4 := fm ((once + (t.c + 1) + t.b.fdiv 1000003) * (once.fmod 40009 + 7)) 2147483629 (by decide)
    generalize hy : ((once + (t.c + 1) + t.b.fdiv 1000003) * (once.fmod 40009 + 7)).fmod 2147483629 = twice at e4
    have m4 : bitsOk twice 48271 = true := bits2 (m := 40) (n := 30) (by omega) (by decide) (by decide) (by decide) (by decide)
    refine ⟨(((twice * 48271 + once).fmod 2147483587).fdiv 64).fmod below, { t with c := t.c + 1 }, ?_, (fm _ _ h0).1, (fm _ _ h0).2, ⟨b0, b1, by show 0 ≤ t.c + 1; omega, by simp at c1 ⊢; omega⟩⟩
    refine runDef_rt rfl ((sSeq_nx (e' := env0 6 [.tin, .int below]) (t' := t) ((sIf_f hc).trans rfl)).trans ?_)
    refine (sSeq_nx (e' := env0 6 [.tin, .int below]) (t' := { t with c := t.c + 1 }) rfl).trans ?_
    refine (sSeq_nx (e' := [some (false, .tin), some (false, .int below), none, some (false, .int once), none, none]) (t' := { t with c := t.c + 1 }) (sAsg_ok (eOp_ok (eB_ok (aCons_ok (eOp_ok (eOp_ok rfl (eOp_ok rfl rfl (mul_ok m1)) rfl) (eOp_ok rfl rfl rfl) (mul_ok m2)) rfl) rfl) rfl ((mod_ok (by decide)).trans (by rw [hx]))) rfl)).trans ?_
    refine (sSeq_nx (e' := [some (false, .tin), some (false, .int below), none, some (false, .int once), some (false, .int (once.fmod 40009 + 7)), none]) (t' := { t with c := t.c + 1 }) (sAsg_ok (eOp_ok (eOp_ok (eB_ok (aCons_ok rfl rfl) rfl) rfl (mod_ok (by decide))) rfl rfl) rfl)).trans ?_
    refine (sSeq_nx (e' := [some (false, .tin), some (false, .int below), none, some (false, .int once), some (false, .int (once.fmod 40009 + 7)), some (false, .int twice)]) (t' := { t with c := t.c + 1 }) (sAsg_ok (eOp_ok (eB_ok (aCons_ok (eOp_ok (eOp_ok (eOp_ok rfl rfl rfl) (eOp_ok rfl rfl (div_ok (by decide) (by decide))) rfl) rfl (mul_ok m3)) rfl) rfl) rfl ((mod_ok (by decide)).trans (by rw [hy]))) rfl)).trans ?_
    exact sSeq_ret (eOp_ok (eB_ok (aCons_ok (eOp_ok (eOp_ok (eB_ok (aCons_ok (eOp_ok (eOp_ok rfl rfl (mul_ok m4)) rfl rfl) rfl) rfl) rfl (mod_ok (by decide))) rfl (div_ok (by decide) (by decide))) rfl) rfl) rfl (mod_ok hb))
theorem sFor_nx {it : Nf.It} {G : Nf.G} {b : Nf.S} {env e' : Nf.Env} {t t1 t2 : Tin} {xs : List Val} (h : it env t = .ok xs t1) (g : Nf.forLoop G b xs env t1 = .nx e' t2) : Nf.sFor it G b env t = .nx e' t2 := sFor_ok h g
/-! ### the cells of a script -/
theorem cell_for (B : Nat) (hB : B < 2 ^ 1048600) : ∀ (xs : List Val), (∀ v ∈ xs, ∃ k b : Int, v = .tup [.int k, .int b] ∧ 0 ≤ k ∧ k ≤ 100 ∧ b.natAbs * 102 ≤ B) → ∀ (n : Int) (p o3 o4 o5 : Option (Bool × Val)) (t : Tin),
    ∃ (m : Int) (q3 q4 q5 : Option (Bool × Val)), forLoop (Nf.gTup [(Nf.gName 3), (Nf.gName 4)]) (sSeq (sAsg (Nf.gName 5) (eOp oMod (eB bInt (aCons (eVar 3) aNil)) (eVar 1))) (sSeq (sSet 2 (eVar 5) (eOp oAdd (eOp oIx (eOwn 2) (eVar 5)) (eOp oMul (eVar 4) (eOp oAdd (eVar 3) (eC (.int 2)))))) sNil)) xs
      [p, some (false, .int 1), some (true, .lst [.int n]), o3, o4, o5] t = .nx [p, some (false, .int 1), some (true, .lst [.int m]), q3, q4, q5] t ∧ m.natAbs ≤ n.natAbs + xs.length * B
  | [], h, n, p, o3, o4, o5, t => ⟨n, o3, o4, o5, rfl, by simp⟩
  | x :: xs, h, n, p, o3, o4, o5, t => by
    obtain ⟨k, b, rfl, h0, h1, h2⟩ := h x List.mem_cons_self
    obtain ⟨m, q3, q4, q5, e, hm⟩ := cell_for B hB xs (fun v hv => h v (List.mem_cons_of_mem _ hv)) (n + b * (k + 2)) p (some (false, .int k)) (some (false, .int b)) (some (false, .int 0)) t
    refine ⟨m, q3, q4, q5, ?_, ?_⟩
    · rw [← e]
      have hb : b.natAbs < 2 ^ 1048600 := by omega
      have m1 : bitsOk b (k + 2) = true := bits2 (m := 1048600) (n := 10) hb (by omega) (by decide) (by decide) (by decide)
      refine forLoop_nx (e1 := [p, some (false, .int 1), some (true, .lst [.int n]), some (false, .int k), some (false, .int b), o5]) rfl ?_
      refine (sSeq_nx (e' := [p, some (false, .int 1), some (true, .lst [.int n]), some (false, .int k), some (false, .int b), some (false, .int 0)]) (t' := t) (sAsg_ok (eOp_ok (eB_ok (aCons_ok rfl rfl) rfl) rfl ((mod_ok (by decide)).trans (by rw [Int.fmod_one]))) rfl)).trans ?_
      refine (sSeq_nx (e' := [p, some (false, .int 1), some (true, .lst [.int (n + b * (k + 2))]), some (false, .int k), some (false, .int b), some (false, .int 0)]) (t' := t) ?_).trans rfl
      have ee : (eOp oAdd (eOp oIx (eOwn 2) (eVar 5)) (eOp oMul (eVar 4) (eOp oAdd (eVar 3) (eC (.int 2))))) [p, some (false, .int 1), some (true, .lst [.int n]), some (false, .int k), some (false, .int b), some (false, .int 0)] t = .ok (.int (n + b * (k + 2))) t :=
        eOp_ok (eOp_ok rfl rfl rfl) (eOp_ok rfl (eOp_ok rfl rfl rfl) (mul_ok m1)) rfl
      show (Res.toS _ _) = _
      rw [ee]
      rfl
    · have h3 : (b * (k + 2)).natAbs ≤ B := by
        rw [Int.natAbs_mul]
        refine Nat.le_trans (Nat.mul_le_mul_left _ (?_ : (k + 2).natAbs ≤ 102)) h2
        omega
      have h4 : (n + b * (k + 2)).natAbs ≤ n.natAbs + (b * (k + 2)).natAbs := Int.natAbs_add_le _ _
      rw [List.length_cons, Nat.add_mul, Nat.one_mul]
      omega
theorem enum_mem {ms : List Int} {v : Val} (h : v ∈ enumL (ms.map Val.int)) : ∃ (k : Nat) (b : Int), v = .tup [.int k, .int b] ∧ k < ms.length ∧ b ∈ ms := by
  unfold enumL at h
  rw [List.mem_map] at h
  obtain ⟨⟨x, i⟩, hp, rfl⟩ := h
  have h2 := List.mem_zipIdx hp
  simp only [List.length_map, Nat.zero_add] at h2
  obtain ⟨_, h3, h4⟩ := h2
  rw [List.getElem_map] at h4
  exact ⟨i, ms[i - 0], by simp [h4], h3, List.getElem_mem _⟩
theorem cut_map (ns : List Int) (lo hi : Option Int) : cut (ns.map Val.int) lo hi = ((ns.drop (slIx ns.length 0 lo)).take (slIx ns.length ns.length hi - slIx ns.length 0 lo)).map Val.int := by
  unfold cut
  rw [List.length_map, List.map_take, List.map_drop]
theorem bits_lt {z : Int} (h : Builtin.Int.intBits z ≤ 1048576) : z.natAbs < 2 ^ 1048577 := by
  unfold Builtin.Int.intBits at h
  by_cases e : z.natAbs = 0
  · rw [e]; exact Nat.two_pow_pos _
  · have h0 : (z == 0) = false := by
      rw [beq_eq_false_iff_ne]
      intro h; rw [h] at e; exact e rfl
    rw [h0] at h
    have h2 : z.natAbs.log2 < 1048577 := by
      simp only [Bool.false_eq_true, if_false] at h
      omega
    exact (Nat.log2_lt e).mp h2
theorem cells_ok (ns : List Int) (hl : ns.length ≤ 63) (hb : ∀ z ∈ ns, Builtin.Int.intBits z ≤ 1048576) (t : Tin) : ∃ m : Int, g__law_cells [.scr ns, .int 1] t = .ok (.lst [.int m]) t ∧ m.natAbs < 2 ^ 1048610 := by
  have c0 : ∃ x : Int, (eOr (eB bList (aCons (eSl (eVar 0) pNo (pAt (eVar 1))) aNil)) (eLst (aCons (eC (.int 0)) aNil))) (env0 6 [.scr ns, .int 1]) t = .ok (.lst [.int x]) t ∧ x.natAbs < 2 ^ 1048577 := by
    cases ns with
    | nil => exact ⟨0, rfl, Nat.two_pow_pos _⟩
    | cons x r =>
      refine ⟨x, ?_, bits_lt (hb x List.mem_cons_self)⟩
      have e1 : cut ((x :: r).map Val.int) none (some 1) = [.int x] := by
        rw [cut_map]
        have : slIx (x :: r).length (x :: r).length (some 1) = 1 := by
          simp [slIx]
        rw [this]
        rfl
      have e2 : (eSl (eVar 0) pNo (pAt (eVar 1))) (env0 6 [.scr (x :: r), .int 1]) t = .ok (.lst [.int x]) t := by
        show Res.ok (Val.lst (cut ((x :: r).map Val.int) none (some 1))) t = _
        rw [e1]
      show Res.bind _ _ = _
      rw [eB_ok (aCons_ok e2 rfl) rfl]
      rfl
  obtain ⟨x, e0, hx⟩ := c0
  have hc : (eSl (eVar 0) (pAt (eVar 1)) (pAt (eC (.int 63)))) [some (false, .scr ns), some (false, .int 1), some (true, .lst [.int x]), none, none, none] t = .ok (.lst (((ns.drop (slIx ns.length 0 (some 1))).take (slIx ns.length ns.length (some 63) - slIx ns.length 0 (some 1))).map Val.int)) t := by
    show Res.ok (Val.lst (cut (ns.map Val.int) (some 1) (some 63))) t = _
    rw [cut_map]
  generalize hms : (ns.drop (slIx ns.length 0 (some 1))).take (slIx ns.length ns.length (some 63) - slIx ns.length 0 (some 1)) = ms at hc
  have hmem : ∀ z ∈ ms, z ∈ ns := fun z hz => by
    rw [← hms] at hz
    exact List.mem_of_mem_drop (List.mem_of_mem_take hz)
  have hlen : ms.length ≤ 63 := by
    rw [← hms, List.length_take, List.length_drop]
    omega
  have pB : (2 : Nat) ^ 1048577 * 102 < 2 ^ 1048600 := by
    have : (2 : Nat) ^ 1048600 = 2 ^ 1048577 * 2 ^ 23 := by rw [← Nat.pow_add]
    rw [this]
    exact Nat.mul_lt_mul_of_pos_left (by decide) (Nat.two_pow_pos _)
  obtain ⟨m, q3, q4, q5, e, hm⟩ := cell_for (2 ^ 1048577 * 102) pB (enumL (ms.map Val.int)) (fun v hv => by
    obtain ⟨k, b, rfl, h1, h2⟩ := enum_mem hv
    exact ⟨k, b, rfl, by omega, by omega, Nat.mul_le_mul_right _ (Nat.le_of_lt (bits_lt (hb b (hmem b h2))))⟩) x (some (false, .scr ns)) none none none t
  refine ⟨m, ?_, ?_⟩
  · refine runDef_rt rfl ((sSeq_nx (e' := [some (false, .scr ns), some (false, .int 1), some (true, .lst [.int x]), none, none, none]) (t' := t) ?_).trans ?_)
    · show Res.toS _ _ = _
      rw [e0]; rfl
    · refine (sSeq_nx (sFor_ok (xs := enumL (ms.map Val.int)) (t1 := t) ?_ e)).trans rfl
      show Res.bind (aCons _ aNil _ t) _ = _
      rw [aCons_ok hc rfl]
      rfl
  · have h5 : (enumL (ms.map Val.int)).length ≤ 63 := by rw [enumL_len, List.length_map]; exact hlen
    have h6 : (enumL (ms.map Val.int)).length * (2 ^ 1048577 * 102) ≤ 63 * (2 ^ 1048577 * 102) := Nat.mul_le_mul_right _ h5
    have h7 : (2 : Nat) ^ 1048610 = 2 ^ 1048577 * 2 ^ 33 := by rw [← Nat.pow_add]
    rw [h7]
    have h8 : (2 : Nat) ^ 33 = 8589934592 := by decide
    rw [h8]
    generalize (2 : Nat) ^ 1048577 = C at hx hm h6 ⊢
    omega
theorem box_ok (n : Int) (t : Tin) (hn : n.natAbs < 2 ^ 1048610) : ∃ a b : Int, g__law_box [.lst [.int n], .int 0] t = .ok (.lst [.int a, .int b, .int 0]) t ∧ Good 1000000 ⟨a, b, 0⟩ := by
  have f1 : ∀ x y : Int, 0 < y → 0 ≤ x.fmod y ∧ x.fmod y < y := fun x y hy => by
    rw [Int.fmod_eq_emod_of_nonneg x (Int.le_of_lt hy)]
    exact ⟨Int.emod_nonneg x (by omega), Int.emod_lt_of_pos x hy⟩
  have e1 := f1 n 2305843009213693951 (by decide)
  have e2 : (if n < 0 then -n else n).natAbs = n.natAbs := by split <;> simp
  refine ⟨(if n < 0 then -n else n) * (if decide ((10 : Int) ^ 18 ≤ (if n < 0 then -n else n)) then 1 else 0), n.fmod 2305843009213693951 + 39373 * 0 + 25155044, ?_, ⟨by show 0 ≤ n.fmod 2305843009213693951 + 39373 * 0 + 25155044; omega, by show n.fmod 2305843009213693951 + 39373 * 0 + 25155044 < 4611686018427387904; omega, by show (0 : Int) ≤ 0; decide, by show (0 : Int) + ((1000000 : Nat) : Int) ≤ 1000000; decide⟩⟩
  have m1 : bitsOk (if n < 0 then -n else n) (if decide ((10 : Int) ^ 18 ≤ (if n < 0 then -n else n)) then 1 else 0) = true := bits2 (m := 1048610) (n := 4) (by rw [e2]; exact hn) (by generalize decide ((10 : Int) ^ 18 ≤ (if n < 0 then -n else n)) = q; cases q <;> decide) (by decide) (by decide) (by decide)
  refine runDef_rt rfl ((sSeq_nx (e' := [some (false, .lst [.int n]), some (false, .int 0), some (false, .int n)]) (t' := t) rfl).trans ?_)
  refine sSeq_ret ?_
  show Res.bind _ _ = _
  have a1 : (eOp oMul (eB bAbs (aCons (eVar 2) aNil)) (eB bInt (aCons (eOp cGe (eB bAbs (aCons (eVar 2) aNil)) (eOp oPow (eC (.int 10)) (eC (.int 18)))) aNil))) (frzAll [some (false, .lst [.int n]), some (false, .int 0), some (false, .int n)]) t = .ok (.int ((if n < 0 then -n else n) * (if decide ((10 : Int) ^ 18 ≤ (if n < 0 then -n else n)) then 1 else 0))) t :=
    eOp_ok rfl (eB_ok (aCons_ok (eOp_ok rfl (w := .int ((10 : Int) ^ 18)) rfl rfl) rfl) rfl) (mul_ok m1)
  have a2 : (eOp oAdd (eOp oAdd (eOp oMod (eB bInt (aCons (eVar 2) aNil)) (eC (.int 2305843009213693951))) (eOp oMul (eC (.int 39373)) (eVar 1))) (eC (.int 25155044))) (frzAll [some (false, .lst [.int n]), some (false, .int 0), some (false, .int n)]) t = .ok (.int (n.fmod 2305843009213693951 + 39373 * 0 + 25155044)) t :=
    eOp_ok (eOp_ok (eOp_ok (eB_ok (aCons_ok rfl rfl) rfl) rfl (mod_ok (by decide))) (eOp_ok rfl rfl (mul_ok (by decide))) rfl) rfl rfl
  rw [aCons_ok a1 (aCons_ok a2 (aCons_ok rfl rfl))]
  rfl
theorem of_ok {n : Nat} {t : Tin} {xs : List Val} (g : Good (n + 1) t) (h0 : 0 < xs.length) (h1 : xs.length < 1000000000) : ∃ v t', g__law_of [.tin, .lst xs] t = .ok v t' ∧ v ∈ xs ∧ Good n t' := by
  obtain ⟨d, t', e, d0, d1, g'⟩ := take_ok (below := (xs.length : Int)) g (by omega) (by omega)
  have hd : d.toNat < xs.length := by omega
  refine ⟨xs[d.toNat], t', ?_, List.getElem_mem _, g'⟩
  refine runDef_rt rfl (sSeq_ret ?_)
  refine eOp_ok (v := .lst xs) rfl (eCall_ok (aCons_ok rfl (aCons_ok (eB_ok (aCons_ok rfl rfl) rfl) rfl)) e) ?_
  simp only [oIx, ixOf]
  rw [if_pos d0, if_pos d1, Option.bind_some, List.getElem?_eq_getElem hd]
theorem all_ok (m : Nat) (hr : ∀ (n : Nat) (t : Tin), Good (n + m) t → ∃ t', g__law_right [.tin] t = .ok (.bl true) t' ∧ Good n t') : ∀ (xs : List Val) (p : Option (Bool × Val)) (o : Option (Bool × Val)) (t : Tin), Good (xs.length * m) t →
    ∃ t', compLoop (Nf.gName 2) Nf.tYes (eCall GL c__law_right (aCons (eVar 1) aNil)) [p, some (false, .tin), o] xs t = .ok (List.replicate xs.length (.bl true)) t'
  | [], p, o, t, g => ⟨t, rfl⟩
  | x :: xs, p, o, t, g => by
    rw [List.length_cons, Nat.add_mul, Nat.one_mul] at g
    obtain ⟨t1, e1, g1⟩ := hr _ t g
    obtain ⟨t2, e2⟩ := all_ok m hr xs p o t1 g1
    exact ⟨t2, compLoop_yes (e1 := [p, some (false, .tin), some (false, x)]) rfl (eCall_ok (aCons_ok rfl rfl) e1) e2⟩
theorem bools_rep : ∀ n : Nat, boolsOf (List.replicate n (.bl true)) = some (List.replicate n true)
  | 0 => rfl
  | n + 1 => by rw [List.replicate_succ, boolsOf, bools_rep n]; rfl
theorem good_le {n m : Nat} {t : Tin} (g : Good n t) (h : m ≤ n) : Good m t := ⟨g.b0, g.b1, g.c0, by have := g.c1; omega⟩
theorem pure_of (m laps : Nat) (hml : laps * m ≤ 1000000) (hlim : laps ≤ 1000000) (hr : ∀ (n : Nat) (t : Tin), Good (n + m) t → ∃ t', g__law_right [.tin] t = .ok (.bl true) t' ∧ Good n t')
    (he : e_all GL = (sSeq (sRet (eB bAll (aCons (eComp (iRange1 (aCons (eC (.int laps)) aNil)) (Nf.gName 2) [2] Nf.tYes (eCall GL c__law_right (aCons (eVar 1) aNil))) aNil))) sNil))
    (ns : List Int) (hl : ns.length ≤ 63) (hb : ∀ z ∈ ns, Builtin.Int.intBits z ≤ 1048576) : lawRun (e_tin GL) (e_all GL) 3 ns := by
  obtain ⟨n, e1, hn⟩ := cells_ok ns hl hb ⟨0, 0, 0⟩
  obtain ⟨a, b, e2, g⟩ := box_ok n ⟨0, 0, 0⟩ hn
  have hlen : (rangeL 0 laps).length = laps := by simp [rangeL]
  obtain ⟨t', e3⟩ := all_ok m hr (rangeL 0 laps) none none ⟨a, b, 0⟩ (good_le g (by rw [hlen]; exact hml))
  refine ⟨a, b, 0, ⟨0, 0, 0⟩, .bl true, t', eCall_ok (aCons_ok (eCall_ok (aCons_ok rfl (aCons_ok rfl rfl)) e1) (aCons_ok rfl rfl)) e2, ?_, rfl⟩
  rw [he]
  have hit : (iRange1 (aCons (eC (.int laps)) aNil)) [none, some (false, .tin), none] ⟨a, b, 0⟩ = .ok (rangeL 0 laps) ⟨a, b, 0⟩ := by
    show (if (laps : Int) ≤ lim ∧ -(lim : Int) ≤ (laps : Int) then _ else _) = _
    have : (lim : Int) = 1000000 := rfl
    rw [if_pos (by rw [this]; omega)]
  refine sSeq_ret (eB_ok (aCons_ok (eComp_ok hit (by rw [hlen]; exact hlim) e3) rfl) ?_)
  show Option.map _ (boolsOf _) = _
  rw [bools_rep, Option.map_some]
  simp
def GR : Gam := (gam [(c__law_of, g__law_of), (c__law_take, g__law_take), (c_chosen_poly, g_chosen_poly), (c_poly_rests, g_poly_rests), (c__law_chosen, g__law_chosen), (c__law_due, g__law_due), (c__law_same, g__law_same), (c_can_tell_rests, g_can_tell_rests), (c_is_rests_poly, g_is_rests_poly), (c__law_value, g__law_value)])
def rest5 : Nf.S := (fun Γ => (sSeq (sAsg (Nf.gName 4) (eC (.int 1))) (sSeq (sFor (iRange1 (aCons (eC (.int 8)) aNil)) (Nf.gName 5) (sSeq (sIf (tBl (eOp cGt (eVar 4) (eVar 2))) (sSeq sBreak sNil) sNil) (sSeq (sAsg (Nf.gName 4) (eOp oMul (eVar 4) (eVar 1))) sNil))) (sSeq (sAsg (Nf.gName 6) (eCall Γ c_poly_rests (aCons (eVar 3) (aCons (eVar 1) aNil)))) (sSeq (sAsg (Nf.gName 7) (eB bTuple (aCons (eComp (iRange1 (aCons (eIf (tBl (eOp cGt (eVar 2) (eC (.int 0)))) (eVar 4) (eC (.int 1))) aNil)) (Nf.gName 8) [8] Nf.tYes (eCall Γ c__law_due (aCons (eVar 8) (aCons (eVar 2) (aCons (eVar 1) aNil))))) aNil))) (sSeq (sIf (Nf.tOr (Nf.tNot (tTru (eCall Γ c__law_same (aCons (eVar 6) (aCons (eVar 7) aNil))))) (tBl (eOp cNe (eComp (iRange1 (aCons (eC (.int 40)) aNil)) (Nf.gName 8) [8] (tBl (eOp cNe (eOp oMod (eOp oIx (eCall Γ c__law_value (aCons (eVar 3) (aCons (eVar 8) aNil))) (eC (.int 0))) (eVar 1)) (eOp oIx (eVar 7) (eOp oMod (eVar 8) (eB bLen (aCons (eVar 7) aNil)))))) (eVar 8)) (eLst aNil)))) (sSeq (sRet (eC (.bl false))) sNil) sNil) (sSeq (sIf (Nf.tAnd (tBl (eOp cLt (eB bLen (aCons (eVar 6) aNil)) (eC (.int 61)))) (Nf.tOr (Nf.tNot (tTru (eCall Γ c_can_tell_rests (aCons (eVar 1) (aCons (eVar 6) aNil))))) (tBl (eOp cNotB (eCall Γ c_is_rests_poly (aCons (eVar 1) (aCons (eVar 6) (aCons (eVar 3) aNil)))) (eC (.bl true)))))) (sSeq (sRet (eC (.bl false))) sNil) sNil) (sSeq (sRet (eOp cEq (eComp (iRange2 (aCons (eC (.int 1)) (aCons (eC (.int 20)) aNil))) (Nf.gName 8) [8] (tBl (eOp cNe (eOp oMod (eOp oIx (eCall Γ c__law_value (aCons (eVar 3) (aCons (eOp oSub (eC (.int 0)) (eVar 8)) aNil))) (eC (.int 0))) (eVar 1)) (eOp oIx (eVar 7) (eOp oMod (eOp oSub (eC (.int 0)) (eVar 8)) (eB bLen (aCons (eVar 7) aNil)))))) (eVar 8)) (eLst aNil))) sNil)))))))) GR
def A3 : Nf.S := (fun Γ => (sAsg (Nf.gName 3) (eCall Γ c_chosen_poly (aCons (eVar 2) aNil)))) GR
def A4 : Nf.S := (fun Γ => (sIf (tBl (eOp cNe (eVar 3) (eCall Γ c__law_chosen (aCons (eVar 2) aNil)))) (sSeq (sRet (eC (.bl false))) sNil) sNil)) GR
def ev9 (p k : Int) (o : Option (Bool × Val)) : Nf.Env := [some (false, .tin), some (false, .int p), some (false, .int k), o, none, none, none, none, none]
theorem tBl_ok {f : E} {env : Nf.Env} {t t1 : Tin} {b : Bool} (h : f env t = .ok (.bl b) t1) : Nf.tBl f env t = .ok b t1 := by unfold Nf.tBl; rw [h]; rfl
theorem c_gen (p k : Int) (L : Val) (t : Tin) (ch : g_chosen_poly [.int k] t = .ok L t) (lc : g__law_chosen [.int k] t = .ok L t) (ne : cNe L L = some (.bl false)) (r : rest5 (ev9 p k (some (false, L))) t = .rt (.bl true) t) : sSeq A3 (sSeq A4 rest5) (ev9 p k none) t = .rt (.bl true) t := by
  refine (sSeq_nx (e' := ev9 p k (some (false, L))) (t' := t) (sAsg_ok (eCall_ok (vs := [.int k]) rfl ch) rfl)).trans ?_
  refine (sSeq_nx (e' := ev9 p k (some (false, L))) (t' := t) ?_).trans r
  exact (sIf_f (tBl_ok (eOp_ok rfl (eCall_ok (vs := [.int k]) rfl lc) ne))).trans rfl
def lit0 : Val := Val.tup [Val.tup [Val.int (1), Val.int 1]]
theorem ch0 (t : Tin) : g_chosen_poly [.int 0] t = .ok lit0 t := by kernel_rfl
theorem lc0 (t : Tin) : g__law_chosen [.int 0] t = .ok lit0 t := by kernel_rfl
theorem ne0 : cNe lit0 lit0 = some (.bl false) := by kernel_rfl
theorem r2_0 (t : Tin) : rest5 (ev9 2 0 (some (false, lit0))) t = .rt (.bl true) t := by kernel_rfl
theorem c2_0 (t : Tin) : sSeq A3 (sSeq A4 rest5) (ev9 2 0 none) t = .rt (.bl true) t := c_gen 2 0 lit0 t (ch0 t) (lc0 t) ne0 (r2_0 t)
theorem r3_0 (t : Tin) : rest5 (ev9 3 0 (some (false, lit0))) t = .rt (.bl true) t := by kernel_rfl
theorem c3_0 (t : Tin) : sSeq A3 (sSeq A4 rest5) (ev9 3 0 none) t = .rt (.bl true) t := c_gen 3 0 lit0 t (ch0 t) (lc0 t) ne0 (r3_0 t)
theorem r5_0 (t : Tin) : rest5 (ev9 5 0 (some (false, lit0))) t = .rt (.bl true) t := by kernel_rfl
theorem c5_0 (t : Tin) : sSeq A3 (sSeq A4 rest5) (ev9 5 0 none) t = .rt (.bl true) t := c_gen 5 0 lit0 t (ch0 t) (lc0 t) ne0 (r5_0 t)
theorem r7_0 (t : Tin) : rest5 (ev9 7 0 (some (false, lit0))) t = .rt (.bl true) t := by kernel_rfl
theorem c7_0 (t : Tin) : sSeq A3 (sSeq A4 rest5) (ev9 7 0 none) t = .rt (.bl true) t := c_gen 7 0 lit0 t (ch0 t) (lc0 t) ne0 (r7_0 t)
def lit1 : Val := Val.tup [Val.tup [Val.int (0), Val.int 1], Val.tup [Val.int (1), Val.int 1]]
theorem ch1 (t : Tin) : g_chosen_poly [.int 1] t = .ok lit1 t := by kernel_rfl
theorem lc1 (t : Tin) : g__law_chosen [.int 1] t = .ok lit1 t := by kernel_rfl
theorem ne1 : cNe lit1 lit1 = some (.bl false) := by kernel_rfl
theorem r2_1 (t : Tin) : rest5 (ev9 2 1 (some (false, lit1))) t = .rt (.bl true) t := by kernel_rfl
theorem c2_1 (t : Tin) : sSeq A3 (sSeq A4 rest5) (ev9 2 1 none) t = .rt (.bl true) t := c_gen 2 1 lit1 t (ch1 t) (lc1 t) ne1 (r2_1 t)
theorem r3_1 (t : Tin) : rest5 (ev9 3 1 (some (false, lit1))) t = .rt (.bl true) t := by kernel_rfl
theorem c3_1 (t : Tin) : sSeq A3 (sSeq A4 rest5) (ev9 3 1 none) t = .rt (.bl true) t := c_gen 3 1 lit1 t (ch1 t) (lc1 t) ne1 (r3_1 t)
theorem r5_1 (t : Tin) : rest5 (ev9 5 1 (some (false, lit1))) t = .rt (.bl true) t := by kernel_rfl
theorem c5_1 (t : Tin) : sSeq A3 (sSeq A4 rest5) (ev9 5 1 none) t = .rt (.bl true) t := c_gen 5 1 lit1 t (ch1 t) (lc1 t) ne1 (r5_1 t)
theorem r7_1 (t : Tin) : rest5 (ev9 7 1 (some (false, lit1))) t = .rt (.bl true) t := by kernel_rfl
theorem c7_1 (t : Tin) : sSeq A3 (sSeq A4 rest5) (ev9 7 1 none) t = .rt (.bl true) t := c_gen 7 1 lit1 t (ch1 t) (lc1 t) ne1 (r7_1 t)
def lit2 : Val := Val.tup [Val.tup [Val.int (0), Val.int 1], Val.tup [Val.int (-1), Val.int 2], Val.tup [Val.int (1), Val.int 2]]
theorem ch2 (t : Tin) : g_chosen_poly [.int 2] t = .ok lit2 t := by kernel_rfl
theorem lc2 (t : Tin) : g__law_chosen [.int 2] t = .ok lit2 t := by kernel_rfl
theorem ne2 : cNe lit2 lit2 = some (.bl false) := by kernel_rfl
theorem r2_2 (t : Tin) : rest5 (ev9 2 2 (some (false, lit2))) t = .rt (.bl true) t := by kernel_rfl
theorem c2_2 (t : Tin) : sSeq A3 (sSeq A4 rest5) (ev9 2 2 none) t = .rt (.bl true) t := c_gen 2 2 lit2 t (ch2 t) (lc2 t) ne2 (r2_2 t)
theorem r3_2 (t : Tin) : rest5 (ev9 3 2 (some (false, lit2))) t = .rt (.bl true) t := by kernel_rfl
theorem c3_2 (t : Tin) : sSeq A3 (sSeq A4 rest5) (ev9 3 2 none) t = .rt (.bl true) t := c_gen 3 2 lit2 t (ch2 t) (lc2 t) ne2 (r3_2 t)
theorem r5_2 (t : Tin) : rest5 (ev9 5 2 (some (false, lit2))) t = .rt (.bl true) t := by kernel_rfl
theorem c5_2 (t : Tin) : sSeq A3 (sSeq A4 rest5) (ev9 5 2 none) t = .rt (.bl true) t := c_gen 5 2 lit2 t (ch2 t) (lc2 t) ne2 (r5_2 t)
theorem r7_2 (t : Tin) : rest5 (ev9 7 2 (some (false, lit2))) t = .rt (.bl true) t := by kernel_rfl
theorem c7_2 (t : Tin) : sSeq A3 (sSeq A4 rest5) (ev9 7 2 none) t = .rt (.bl true) t := c_gen 7 2 lit2 t (ch2 t) (lc2 t) ne2 (r7_2 t)
def lit3 : Val := Val.tup [Val.tup [Val.int (0), Val.int 1], Val.tup [Val.int (1), Val.int 3], Val.tup [Val.int (-1), Val.int 2], Val.tup [Val.int (1), Val.int 6]]
theorem ch3 (t : Tin) : g_chosen_poly [.int 3] t = .ok lit3 t := by kernel_rfl
theorem lc3 (t : Tin) : g__law_chosen [.int 3] t = .ok lit3 t := by kernel_rfl
theorem ne3 : cNe lit3 lit3 = some (.bl false) := by kernel_rfl
theorem r2_3 (t : Tin) : rest5 (ev9 2 3 (some (false, lit3))) t = .rt (.bl true) t := by kernel_rfl
theorem c2_3 (t : Tin) : sSeq A3 (sSeq A4 rest5) (ev9 2 3 none) t = .rt (.bl true) t := c_gen 2 3 lit3 t (ch3 t) (lc3 t) ne3 (r2_3 t)
theorem r3_3 (t : Tin) : rest5 (ev9 3 3 (some (false, lit3))) t = .rt (.bl true) t := by kernel_rfl
theorem c3_3 (t : Tin) : sSeq A3 (sSeq A4 rest5) (ev9 3 3 none) t = .rt (.bl true) t := c_gen 3 3 lit3 t (ch3 t) (lc3 t) ne3 (r3_3 t)
theorem r5_3 (t : Tin) : rest5 (ev9 5 3 (some (false, lit3))) t = .rt (.bl true) t := by kernel_rfl
theorem c5_3 (t : Tin) : sSeq A3 (sSeq A4 rest5) (ev9 5 3 none) t = .rt (.bl true) t := c_gen 5 3 lit3 t (ch3 t) (lc3 t) ne3 (r5_3 t)
theorem r7_3 (t : Tin) : rest5 (ev9 7 3 (some (false, lit3))) t = .rt (.bl true) t := by kernel_rfl
theorem c7_3 (t : Tin) : sSeq A3 (sSeq A4 rest5) (ev9 7 3 none) t = .rt (.bl true) t := c_gen 7 3 lit3 t (ch3 t) (lc3 t) ne3 (r7_3 t)
def lit4 : Val := Val.tup [Val.tup [Val.int (0), Val.int 1], Val.tup [Val.int (-1), Val.int 4], Val.tup [Val.int (11), Val.int 24], Val.tup [Val.int (-1), Val.int 4], Val.tup [Val.int (1), Val.int 24]]
theorem ch4 (t : Tin) : g_chosen_poly [.int 4] t = .ok lit4 t := by kernel_rfl
theorem lc4 (t : Tin) : g__law_chosen [.int 4] t = .ok lit4 t := by kernel_rfl
theorem ne4 : cNe lit4 lit4 = some (.bl false) := by kernel_rfl
theorem r2_4 (t : Tin) : rest5 (ev9 2 4 (some (false, lit4))) t = .rt (.bl true) t := by kernel_rfl
theorem c2_4 (t : Tin) : sSeq A3 (sSeq A4 rest5) (ev9 2 4 none) t = .rt (.bl true) t := c_gen 2 4 lit4 t (ch4 t) (lc4 t) ne4 (r2_4 t)
theorem r3_4 (t : Tin) : rest5 (ev9 3 4 (some (false, lit4))) t = .rt (.bl true) t := by kernel_rfl
theorem c3_4 (t : Tin) : sSeq A3 (sSeq A4 rest5) (ev9 3 4 none) t = .rt (.bl true) t := c_gen 3 4 lit4 t (ch4 t) (lc4 t) ne4 (r3_4 t)
theorem r5_4 (t : Tin) : rest5 (ev9 5 4 (some (false, lit4))) t = .rt (.bl true) t := by kernel_rfl
theorem c5_4 (t : Tin) : sSeq A3 (sSeq A4 rest5) (ev9 5 4 none) t = .rt (.bl true) t := c_gen 5 4 lit4 t (ch4 t) (lc4 t) ne4 (r5_4 t)
theorem r7_4 (t : Tin) : rest5 (ev9 7 4 (some (false, lit4))) t = .rt (.bl true) t := by kernel_rfl
theorem c7_4 (t : Tin) : sSeq A3 (sSeq A4 rest5) (ev9 7 4 none) t = .rt (.bl true) t := c_gen 7 4 lit4 t (ch4 t) (lc4 t) ne4 (r7_4 t)
def lit5 : Val := Val.tup [Val.tup [Val.int (0), Val.int 1], Val.tup [Val.int (1), Val.int 5], Val.tup [Val.int (-5), Val.int 12], Val.tup [Val.int (7), Val.int 24], Val.tup [Val.int (-1), Val.int 12], Val.tup [Val.int (1), Val.int 120]]
theorem ch5 (t : Tin) : g_chosen_poly [.int 5] t = .ok lit5 t := by kernel_rfl
theorem lc5 (t : Tin) : g__law_chosen [.int 5] t = .ok lit5 t := by kernel_rfl
theorem ne5 : cNe lit5 lit5 = some (.bl false) := by kernel_rfl
theorem r2_5 (t : Tin) : rest5 (ev9 2 5 (some (false, lit5))) t = .rt (.bl true) t := by kernel_rfl
theorem c2_5 (t : Tin) : sSeq A3 (sSeq A4 rest5) (ev9 2 5 none) t = .rt (.bl true) t := c_gen 2 5 lit5 t (ch5 t) (lc5 t) ne5 (r2_5 t)
theorem r3_5 (t : Tin) : rest5 (ev9 3 5 (some (false, lit5))) t = .rt (.bl true) t := by kernel_rfl
theorem c3_5 (t : Tin) : sSeq A3 (sSeq A4 rest5) (ev9 3 5 none) t = .rt (.bl true) t := c_gen 3 5 lit5 t (ch5 t) (lc5 t) ne5 (r3_5 t)
theorem r5_5 (t : Tin) : rest5 (ev9 5 5 (some (false, lit5))) t = .rt (.bl true) t := by kernel_rfl
theorem c5_5 (t : Tin) : sSeq A3 (sSeq A4 rest5) (ev9 5 5 none) t = .rt (.bl true) t := c_gen 5 5 lit5 t (ch5 t) (lc5 t) ne5 (r5_5 t)
theorem r7_5 (t : Tin) : rest5 (ev9 7 5 (some (false, lit5))) t = .rt (.bl true) t := by kernel_rfl
theorem c7_5 (t : Tin) : sSeq A3 (sSeq A4 rest5) (ev9 7 5 none) t = .rt (.bl true) t := c_gen 7 5 lit5 t (ch5 t) (lc5 t) ne5 (r7_5 t)
def lit6 : Val := Val.tup [Val.tup [Val.int (0), Val.int 1], Val.tup [Val.int (-1), Val.int 6], Val.tup [Val.int (137), Val.int 360], Val.tup [Val.int (-5), Val.int 16], Val.tup [Val.int (17), Val.int 144], Val.tup [Val.int (-1), Val.int 48], Val.tup [Val.int (1), Val.int 720]]
theorem ch6 (t : Tin) : g_chosen_poly [.int 6] t = .ok lit6 t := by kernel_rfl
theorem lc6 (t : Tin) : g__law_chosen [.int 6] t = .ok lit6 t := by kernel_rfl
theorem ne6 : cNe lit6 lit6 = some (.bl false) := by kernel_rfl
theorem r2_6 (t : Tin) : rest5 (ev9 2 6 (some (false, lit6))) t = .rt (.bl true) t := by kernel_rfl
theorem c2_6 (t : Tin) : sSeq A3 (sSeq A4 rest5) (ev9 2 6 none) t = .rt (.bl true) t := c_gen 2 6 lit6 t (ch6 t) (lc6 t) ne6 (r2_6 t)
theorem r3_6 (t : Tin) : rest5 (ev9 3 6 (some (false, lit6))) t = .rt (.bl true) t := by kernel_rfl
theorem c3_6 (t : Tin) : sSeq A3 (sSeq A4 rest5) (ev9 3 6 none) t = .rt (.bl true) t := c_gen 3 6 lit6 t (ch6 t) (lc6 t) ne6 (r3_6 t)
theorem r5_6 (t : Tin) : rest5 (ev9 5 6 (some (false, lit6))) t = .rt (.bl true) t := by kernel_rfl
theorem c5_6 (t : Tin) : sSeq A3 (sSeq A4 rest5) (ev9 5 6 none) t = .rt (.bl true) t := c_gen 5 6 lit6 t (ch6 t) (lc6 t) ne6 (r5_6 t)
theorem r7_6 (t : Tin) : rest5 (ev9 7 6 (some (false, lit6))) t = .rt (.bl true) t := by kernel_rfl
theorem c7_6 (t : Tin) : sSeq A3 (sSeq A4 rest5) (ev9 7 6 none) t = .rt (.bl true) t := c_gen 7 6 lit6 t (ch6 t) (lc6 t) ne6 (r7_6 t)
def lit7 : Val := Val.tup [Val.tup [Val.int (0), Val.int 1], Val.tup [Val.int (1), Val.int 7], Val.tup [Val.int (-7), Val.int 20], Val.tup [Val.int (29), Val.int 90], Val.tup [Val.int (-7), Val.int 48], Val.tup [Val.int (5), Val.int 144], Val.tup [Val.int (-1), Val.int 240], Val.tup [Val.int (1), Val.int 5040]]
theorem ch7 (t : Tin) : g_chosen_poly [.int 7] t = .ok lit7 t := by kernel_rfl
theorem lc7 (t : Tin) : g__law_chosen [.int 7] t = .ok lit7 t := by kernel_rfl
theorem ne7 : cNe lit7 lit7 = some (.bl false) := by kernel_rfl
theorem r2_7 (t : Tin) : rest5 (ev9 2 7 (some (false, lit7))) t = .rt (.bl true) t := by kernel_rfl
theorem c2_7 (t : Tin) : sSeq A3 (sSeq A4 rest5) (ev9 2 7 none) t = .rt (.bl true) t := c_gen 2 7 lit7 t (ch7 t) (lc7 t) ne7 (r2_7 t)
theorem r3_7 (t : Tin) : rest5 (ev9 3 7 (some (false, lit7))) t = .rt (.bl true) t := by kernel_rfl
theorem c3_7 (t : Tin) : sSeq A3 (sSeq A4 rest5) (ev9 3 7 none) t = .rt (.bl true) t := c_gen 3 7 lit7 t (ch7 t) (lc7 t) ne7 (r3_7 t)
theorem r5_7 (t : Tin) : rest5 (ev9 5 7 (some (false, lit7))) t = .rt (.bl true) t := by kernel_rfl
theorem c5_7 (t : Tin) : sSeq A3 (sSeq A4 rest5) (ev9 5 7 none) t = .rt (.bl true) t := c_gen 5 7 lit7 t (ch7 t) (lc7 t) ne7 (r5_7 t)
theorem r7_7 (t : Tin) : rest5 (ev9 7 7 (some (false, lit7))) t = .rt (.bl true) t := by kernel_rfl
theorem c7_7 (t : Tin) : sSeq A3 (sSeq A4 rest5) (ev9 7 7 none) t = .rt (.bl true) t := c_gen 7 7 lit7 t (ch7 t) (lc7 t) ne7 (r7_7 t)
def lit8 : Val := Val.tup [Val.tup [Val.int (0), Val.int 1], Val.tup [Val.int (-1), Val.int 8], Val.tup [Val.int (363), Val.int 1120], Val.tup [Val.int (-469), Val.int 1440], Val.tup [Val.int (967), Val.int 5760], Val.tup [Val.int (-7), Val.int 144], Val.tup [Val.int (23), Val.int 2880], Val.tup [Val.int (-1), Val.int 1440], Val.tup [Val.int (1), Val.int 40320]]
theorem ch8 (t : Tin) : g_chosen_poly [.int 8] t = .ok lit8 t := by kernel_rfl
theorem lc8 (t : Tin) : g__law_chosen [.int 8] t = .ok lit8 t := by kernel_rfl
theorem ne8 : cNe lit8 lit8 = some (.bl false) := by kernel_rfl
theorem r2_8 (t : Tin) : rest5 (ev9 2 8 (some (false, lit8))) t = .rt (.bl true) t := by kernel_rfl
theorem c2_8 (t : Tin) : sSeq A3 (sSeq A4 rest5) (ev9 2 8 none) t = .rt (.bl true) t := c_gen 2 8 lit8 t (ch8 t) (lc8 t) ne8 (r2_8 t)
theorem r3_8 (t : Tin) : rest5 (ev9 3 8 (some (false, lit8))) t = .rt (.bl true) t := by kernel_rfl
theorem c3_8 (t : Tin) : sSeq A3 (sSeq A4 rest5) (ev9 3 8 none) t = .rt (.bl true) t := c_gen 3 8 lit8 t (ch8 t) (lc8 t) ne8 (r3_8 t)
theorem r5_8 (t : Tin) : rest5 (ev9 5 8 (some (false, lit8))) t = .rt (.bl true) t := by kernel_rfl
theorem c5_8 (t : Tin) : sSeq A3 (sSeq A4 rest5) (ev9 5 8 none) t = .rt (.bl true) t := c_gen 5 8 lit8 t (ch8 t) (lc8 t) ne8 (r5_8 t)
theorem r7_8 (t : Tin) : rest5 (ev9 7 8 (some (false, lit8))) t = .rt (.bl true) t := by kernel_rfl
theorem c7_8 (t : Tin) : sSeq A3 (sSeq A4 rest5) (ev9 7 8 none) t = .rt (.bl true) t := c_gen 7 8 lit8 t (ch8 t) (lc8 t) ne8 (r7_8 t)
def lit9 : Val := Val.tup [Val.tup [Val.int (0), Val.int 1], Val.tup [Val.int (1), Val.int 9], Val.tup [Val.int (-761), Val.int 2520], Val.tup [Val.int (29531), Val.int 90720], Val.tup [Val.int (-89), Val.int 480], Val.tup [Val.int (1069), Val.int 17280], Val.tup [Val.int (-1), Val.int 80], Val.tup [Val.int (13), Val.int 8640], Val.tup [Val.int (-1), Val.int 10080], Val.tup [Val.int (1), Val.int 362880]]
theorem ch9 (t : Tin) : g_chosen_poly [.int 9] t = .ok lit9 t := by kernel_rfl
theorem lc9 (t : Tin) : g__law_chosen [.int 9] t = .ok lit9 t := by kernel_rfl
theorem ne9 : cNe lit9 lit9 = some (.bl false) := by kernel_rfl
theorem r2_9 (t : Tin) : rest5 (ev9 2 9 (some (false, lit9))) t = .rt (.bl true) t := by kernel_rfl
theorem c2_9 (t : Tin) : sSeq A3 (sSeq A4 rest5) (ev9 2 9 none) t = .rt (.bl true) t := c_gen 2 9 lit9 t (ch9 t) (lc9 t) ne9 (r2_9 t)
theorem r3_9 (t : Tin) : rest5 (ev9 3 9 (some (false, lit9))) t = .rt (.bl true) t := by kernel_rfl
theorem c3_9 (t : Tin) : sSeq A3 (sSeq A4 rest5) (ev9 3 9 none) t = .rt (.bl true) t := c_gen 3 9 lit9 t (ch9 t) (lc9 t) ne9 (r3_9 t)
theorem r5_9 (t : Tin) : rest5 (ev9 5 9 (some (false, lit9))) t = .rt (.bl true) t := by kernel_rfl
theorem c5_9 (t : Tin) : sSeq A3 (sSeq A4 rest5) (ev9 5 9 none) t = .rt (.bl true) t := c_gen 5 9 lit9 t (ch9 t) (lc9 t) ne9 (r5_9 t)
theorem r7_9 (t : Tin) : rest5 (ev9 7 9 (some (false, lit9))) t = .rt (.bl true) t := by kernel_rfl
theorem c7_9 (t : Tin) : sSeq A3 (sSeq A4 rest5) (ev9 7 9 none) t = .rt (.bl true) t := c_gen 7 9 lit9 t (ch9 t) (lc9 t) ne9 (r7_9 t)
def lit10 : Val := Val.tup [Val.tup [Val.int (0), Val.int 1], Val.tup [Val.int (-1), Val.int 10], Val.tup [Val.int (7129), Val.int 25200], Val.tup [Val.int (-1303), Val.int 4032], Val.tup [Val.int (4523), Val.int 22680], Val.tup [Val.int (-19), Val.int 256], Val.tup [Val.int (3013), Val.int 172800], Val.tup [Val.int (-1), Val.int 384], Val.tup [Val.int (29), Val.int 120960], Val.tup [Val.int (-1), Val.int 80640], Val.tup [Val.int (1), Val.int 3628800]]
theorem ch10 (t : Tin) : g_chosen_poly [.int 10] t = .ok lit10 t := by kernel_rfl
theorem lc10 (t : Tin) : g__law_chosen [.int 10] t = .ok lit10 t := by kernel_rfl
theorem ne10 : cNe lit10 lit10 = some (.bl false) := by kernel_rfl
theorem r2_10 (t : Tin) : rest5 (ev9 2 10 (some (false, lit10))) t = .rt (.bl true) t := by kernel_rfl
theorem c2_10 (t : Tin) : sSeq A3 (sSeq A4 rest5) (ev9 2 10 none) t = .rt (.bl true) t := c_gen 2 10 lit10 t (ch10 t) (lc10 t) ne10 (r2_10 t)
theorem r3_10 (t : Tin) : rest5 (ev9 3 10 (some (false, lit10))) t = .rt (.bl true) t := by kernel_rfl
theorem c3_10 (t : Tin) : sSeq A3 (sSeq A4 rest5) (ev9 3 10 none) t = .rt (.bl true) t := c_gen 3 10 lit10 t (ch10 t) (lc10 t) ne10 (r3_10 t)
theorem r5_10 (t : Tin) : rest5 (ev9 5 10 (some (false, lit10))) t = .rt (.bl true) t := by kernel_rfl
theorem c5_10 (t : Tin) : sSeq A3 (sSeq A4 rest5) (ev9 5 10 none) t = .rt (.bl true) t := c_gen 5 10 lit10 t (ch10 t) (lc10 t) ne10 (r5_10 t)
theorem r7_10 (t : Tin) : rest5 (ev9 7 10 (some (false, lit10))) t = .rt (.bl true) t := by kernel_rfl
theorem c7_10 (t : Tin) : sSeq A3 (sSeq A4 rest5) (ev9 7 10 none) t = .rt (.bl true) t := c_gen 7 10 lit10 t (ch10 t) (lc10 t) ne10 (r7_10 t)
def lit11 : Val := Val.tup [Val.tup [Val.int (0), Val.int 1], Val.tup [Val.int (1), Val.int 11], Val.tup [Val.int (-671), Val.int 2520], Val.tup [Val.int (16103), Val.int 50400], Val.tup [Val.int (-7645), Val.int 36288], Val.tup [Val.int (31063), Val.int 362880], Val.tup [Val.int (-781), Val.int 34560], Val.tup [Val.int (683), Val.int 172800], Val.tup [Val.int (-11), Val.int 24192], Val.tup [Val.int (1), Val.int 30240], Val.tup [Val.int (-1), Val.int 725760], Val.tup [Val.int (1), Val.int 39916800]]
theorem ch11 (t : Tin) : g_chosen_poly [.int 11] t = .ok lit11 t := by kernel_rfl
theorem lc11 (t : Tin) : g__law_chosen [.int 11] t = .ok lit11 t := by kernel_rfl
theorem ne11 : cNe lit11 lit11 = some (.bl false) := by kernel_rfl
theorem r2_11 (t : Tin) : rest5 (ev9 2 11 (some (false, lit11))) t = .rt (.bl true) t := by kernel_rfl
theorem c2_11 (t : Tin) : sSeq A3 (sSeq A4 rest5) (ev9 2 11 none) t = .rt (.bl true) t := c_gen 2 11 lit11 t (ch11 t) (lc11 t) ne11 (r2_11 t)
theorem r3_11 (t : Tin) : rest5 (ev9 3 11 (some (false, lit11))) t = .rt (.bl true) t := by kernel_rfl
theorem c3_11 (t : Tin) : sSeq A3 (sSeq A4 rest5) (ev9 3 11 none) t = .rt (.bl true) t := c_gen 3 11 lit11 t (ch11 t) (lc11 t) ne11 (r3_11 t)
theorem r5_11 (t : Tin) : rest5 (ev9 5 11 (some (false, lit11))) t = .rt (.bl true) t := by kernel_rfl
theorem c5_11 (t : Tin) : sSeq A3 (sSeq A4 rest5) (ev9 5 11 none) t = .rt (.bl true) t := c_gen 5 11 lit11 t (ch11 t) (lc11 t) ne11 (r5_11 t)
theorem r7_11 (t : Tin) : rest5 (ev9 7 11 (some (false, lit11))) t = .rt (.bl true) t := by kernel_rfl
theorem c7_11 (t : Tin) : sSeq A3 (sSeq A4 rest5) (ev9 7 11 none) t = .rt (.bl true) t := c_gen 7 11 lit11 t (ch11 t) (lc11 t) ne11 (r7_11 t)
def lit12 : Val := Val.tup [Val.tup [Val.int (0), Val.int 1], Val.tup [Val.int (-1), Val.int 12], Val.tup [Val.int (83711), Val.int 332640], Val.tup [Val.int (-190553), Val.int 604800], Val.tup [Val.int (341747), Val.int 1555200], Val.tup [Val.int (-139381), Val.int 1451520], Val.tup [Val.int (242537), Val.int 8709120], Val.tup [Val.int (-1903), Val.int 345600], Val.tup [Val.int (10831), Val.int 14515200], Val.tup [Val.int (-11), Val.int 161280], Val.tup [Val.int (1), Val.int 248832], Val.tup [Val.int (-1), Val.int 7257600], Val.tup [Val.int (1), Val.int 479001600]]
theorem ch12 (t : Tin) : g_chosen_poly [.int 12] t = .ok lit12 t := by kernel_rfl
theorem lc12 (t : Tin) : g__law_chosen [.int 12] t = .ok lit12 t := by kernel_rfl
theorem ne12 : cNe lit12 lit12 = some (.bl false) := by kernel_rfl
theorem r2_12 (t : Tin) : rest5 (ev9 2 12 (some (false, lit12))) t = .rt (.bl true) t := by kernel_rfl
theorem c2_12 (t : Tin) : sSeq A3 (sSeq A4 rest5) (ev9 2 12 none) t = .rt (.bl true) t := c_gen 2 12 lit12 t (ch12 t) (lc12 t) ne12 (r2_12 t)
theorem r3_12 (t : Tin) : rest5 (ev9 3 12 (some (false, lit12))) t = .rt (.bl true) t := by kernel_rfl
theorem c3_12 (t : Tin) : sSeq A3 (sSeq A4 rest5) (ev9 3 12 none) t = .rt (.bl true) t := c_gen 3 12 lit12 t (ch12 t) (lc12 t) ne12 (r3_12 t)
theorem r5_12 (t : Tin) : rest5 (ev9 5 12 (some (false, lit12))) t = .rt (.bl true) t := by kernel_rfl
theorem c5_12 (t : Tin) : sSeq A3 (sSeq A4 rest5) (ev9 5 12 none) t = .rt (.bl true) t := c_gen 5 12 lit12 t (ch12 t) (lc12 t) ne12 (r5_12 t)
theorem r7_12 (t : Tin) : rest5 (ev9 7 12 (some (false, lit12))) t = .rt (.bl true) t := by kernel_rfl
theorem c7_12 (t : Tin) : sSeq A3 (sSeq A4 rest5) (ev9 7 12 none) t = .rt (.bl true) t := c_gen 7 12 lit12 t (ch12 t) (lc12 t) ne12 (r7_12 t)
def lit13 : Val := Val.tup [Val.tup [Val.int (0), Val.int 1], Val.tup [Val.int (1), Val.int 13], Val.tup [Val.int (-6617), Val.int 27720], Val.tup [Val.int (128977), Val.int 415800], Val.tup [Val.int (-412009), Val.int 1814400], Val.tup [Val.int (1148963), Val.int 10886400], Val.tup [Val.int (-9607), Val.int 290304], Val.tup [Val.int (314617), Val.int 43545600], Val.tup [Val.int (-299), Val.int 268800], Val.tup [Val.int (1747), Val.int 14515200], Val.tup [Val.int (-13), Val.int 1451520], Val.tup [Val.int (19), Val.int 43545600], Val.tup [Val.int (-1), Val.int 79833600], Val.tup [Val.int (1), Val.int 6227020800]]
theorem ch13 (t : Tin) : g_chosen_poly [.int 13] t = .ok lit13 t := by kernel_rfl
theorem lc13 (t : Tin) : g__law_chosen [.int 13] t = .ok lit13 t := by kernel_rfl
theorem ne13 : cNe lit13 lit13 = some (.bl false) := by kernel_rfl
theorem r2_13 (t : Tin) : rest5 (ev9 2 13 (some (false, lit13))) t = .rt (.bl true) t := by kernel_rfl
theorem c2_13 (t : Tin) : sSeq A3 (sSeq A4 rest5) (ev9 2 13 none) t = .rt (.bl true) t := c_gen 2 13 lit13 t (ch13 t) (lc13 t) ne13 (r2_13 t)
theorem r3_13 (t : Tin) : rest5 (ev9 3 13 (some (false, lit13))) t = .rt (.bl true) t := by kernel_rfl
theorem c3_13 (t : Tin) : sSeq A3 (sSeq A4 rest5) (ev9 3 13 none) t = .rt (.bl true) t := c_gen 3 13 lit13 t (ch13 t) (lc13 t) ne13 (r3_13 t)
theorem r5_13 (t : Tin) : rest5 (ev9 5 13 (some (false, lit13))) t = .rt (.bl true) t := by kernel_rfl
theorem c5_13 (t : Tin) : sSeq A3 (sSeq A4 rest5) (ev9 5 13 none) t = .rt (.bl true) t := c_gen 5 13 lit13 t (ch13 t) (lc13 t) ne13 (r5_13 t)
theorem r7_13 (t : Tin) : rest5 (ev9 7 13 (some (false, lit13))) t = .rt (.bl true) t := by kernel_rfl
theorem c7_13 (t : Tin) : sSeq A3 (sSeq A4 rest5) (ev9 7 13 none) t = .rt (.bl true) t := c_gen 7 13 lit13 t (ch13 t) (lc13 t) ne13 (r7_13 t)
def lit14 : Val := Val.tup [Val.tup [Val.int (0), Val.int 1], Val.tup [Val.int (-1), Val.int 14], Val.tup [Val.int (1145993), Val.int 5045040], Val.tup [Val.int (-9061), Val.int 29700], Val.tup [Val.int (9301169), Val.int 39916800], Val.tup [Val.int (-355277), Val.int 3110400], Val.tup [Val.int (1666393), Val.int 43545600], Val.tup [Val.int (-112879), Val.int 12441600], Val.tup [Val.int (944311), Val.int 609638400], Val.tup [Val.int (-793), Val.int 4147200], Val.tup [Val.int (491), Val.int 29030400], Val.tup [Val.int (-13), Val.int 12441600], Val.tup [Val.int (41), Val.int 958003200], Val.tup [Val.int (-1), Val.int 958003200], Val.tup [Val.int (1), Val.int 87178291200]]
theorem ch14 (t : Tin) : g_chosen_poly [.int 14] t = .ok lit14 t := by kernel_rfl
theorem lc14 (t : Tin) : g__law_chosen [.int 14] t = .ok lit14 t := by kernel_rfl
theorem ne14 : cNe lit14 lit14 = some (.bl false) := by kernel_rfl
theorem r2_14 (t : Tin) : rest5 (ev9 2 14 (some (false, lit14))) t = .rt (.bl true) t := by kernel_rfl
theorem c2_14 (t : Tin) : sSeq A3 (sSeq A4 rest5) (ev9 2 14 none) t = .rt (.bl true) t := c_gen 2 14 lit14 t (ch14 t) (lc14 t) ne14 (r2_14 t)
theorem r3_14 (t : Tin) : rest5 (ev9 3 14 (some (false, lit14))) t = .rt (.bl true) t := by kernel_rfl
theorem c3_14 (t : Tin) : sSeq A3 (sSeq A4 rest5) (ev9 3 14 none) t = .rt (.bl true) t := c_gen 3 14 lit14 t (ch14 t) (lc14 t) ne14 (r3_14 t)
theorem r5_14 (t : Tin) : rest5 (ev9 5 14 (some (false, lit14))) t = .rt (.bl true) t := by kernel_rfl
theorem c5_14 (t : Tin) : sSeq A3 (sSeq A4 rest5) (ev9 5 14 none) t = .rt (.bl true) t := c_gen 5 14 lit14 t (ch14 t) (lc14 t) ne14 (r5_14 t)
theorem r7_14 (t : Tin) : rest5 (ev9 7 14 (some (false, lit14))) t = .rt (.bl true) t := by kernel_rfl
theorem c7_14 (t : Tin) : sSeq A3 (sSeq A4 rest5) (ev9 7 14 none) t = .rt (.bl true) t := c_gen 7 14 lit14 t (ch14 t) (lc14 t) ne14 (r7_14 t)
def lit15 : Val := Val.tup [Val.tup [Val.int (0), Val.int 1], Val.tup [Val.int (1), Val.int 15], Val.tup [Val.int (-1171733), Val.int 5405400], Val.tup [Val.int (30946717), Val.int 103194000], Val.tup [Val.int (-406841), Val.int 1710720], Val.tup [Val.int (21939781), Val.int 179625600], Val.tup [Val.int (-22463), Val.int 518400], Val.tup [Val.int (899683), Val.int 81648000], Val.tup [Val.int (-35717), Val.int 17418240], Val.tup [Val.int (515261), Val.int 1828915200], Val.tup [Val.int (-71), Val.int 2488320], Val.tup [Val.int (2747), Val.int 1306368000], Val.tup [Val.int (-1), Val.int 9123840], Val.tup [Val.int (1), Val.int 261273600], Val.tup [Val.int (-1), Val.int 12454041600], Val.tup [Val.int (1), Val.int 1307674368000]]
theorem ch15 (t : Tin) : g_chosen_poly [.int 15] t = .ok lit15 t := by kernel_rfl
theorem lc15 (t : Tin) : g__law_chosen [.int 15] t = .ok lit15 t := by kernel_rfl
theorem ne15 : cNe lit15 lit15 = some (.bl false) := by kernel_rfl
theorem r2_15 (t : Tin) : rest5 (ev9 2 15 (some (false, lit15))) t = .rt (.bl true) t := by kernel_rfl
theorem c2_15 (t : Tin) : sSeq A3 (sSeq A4 rest5) (ev9 2 15 none) t = .rt (.bl true) t := c_gen 2 15 lit15 t (ch15 t) (lc15 t) ne15 (r2_15 t)
theorem r3_15 (t : Tin) : rest5 (ev9 3 15 (some (false, lit15))) t = .rt (.bl true) t := by kernel_rfl
theorem c3_15 (t : Tin) : sSeq A3 (sSeq A4 rest5) (ev9 3 15 none) t = .rt (.bl true) t := c_gen 3 15 lit15 t (ch15 t) (lc15 t) ne15 (r3_15 t)
theorem r5_15 (t : Tin) : rest5 (ev9 5 15 (some (false, lit15))) t = .rt (.bl true) t := by kernel_rfl
theorem c5_15 (t : Tin) : sSeq A3 (sSeq A4 rest5) (ev9 5 15 none) t = .rt (.bl true) t := c_gen 5 15 lit15 t (ch15 t) (lc15 t) ne15 (r5_15 t)
theorem r7_15 (t : Tin) : rest5 (ev9 7 15 (some (false, lit15))) t = .rt (.bl true) t := by kernel_rfl
theorem c7_15 (t : Tin) : sSeq A3 (sSeq A4 rest5) (ev9 7 15 none) t = .rt (.bl true) t := c_gen 7 15 lit15 t (ch15 t) (lc15 t) ne15 (r7_15 t)
def lit16 : Val := Val.tup [Val.tup [Val.int (0), Val.int 1], Val.tup [Val.int (-1), Val.int 16], Val.tup [Val.int (1195757), Val.int 5765760], Val.tup [Val.int (-13215487), Val.int 44844800], Val.tup [Val.int (35118025721), Val.int 145297152000], Val.tup [Val.int (-2065639), Val.int 15966720], Val.tup [Val.int (277382447), Val.int 5748019200], Val.tup [Val.int (-2271089), Val.int 174182400], Val.tup [Val.int (54576553), Val.int 20901888000], Val.tup [Val.int (-4783), Val.int 12192768], Val.tup [Val.int (324509), Val.int 7315660800], Val.tup [Val.int (-109), Val.int 29030400], Val.tup [Val.int (26921), Val.int 114960384000], Val.tup [Val.int (-1), Val.int 95800320], Val.tup [Val.int (47), Val.int 149448499200], Val.tup [Val.int (-1), Val.int 174356582400], Val.tup [Val.int (1), Val.int 20922789888000]]
theorem ch16 (t : Tin) : g_chosen_poly [.int 16] t = .ok lit16 t := by kernel_rfl
theorem lc16 (t : Tin) : g__law_chosen [.int 16] t = .ok lit16 t := by kernel_rfl
theorem ne16 : cNe lit16 lit16 = some (.bl false) := by kernel_rfl
theorem r2_16 (t : Tin) : rest5 (ev9 2 16 (some (false, lit16))) t = .rt (.bl true) t := by kernel_rfl
theorem c2_16 (t : Tin) : sSeq A3 (sSeq A4 rest5) (ev9 2 16 none) t = .rt (.bl true) t := c_gen 2 16 lit16 t (ch16 t) (lc16 t) ne16 (r2_16 t)
theorem r3_16 (t : Tin) : rest5 (ev9 3 16 (some (false, lit16))) t = .rt (.bl true) t := by kernel_rfl
theorem c3_16 (t : Tin) : sSeq A3 (sSeq A4 rest5) (ev9 3 16 none) t = .rt (.bl true) t := c_gen 3 16 lit16 t (ch16 t) (lc16 t) ne16 (r3_16 t)
theorem r5_16 (t : Tin) : rest5 (ev9 5 16 (some (false, lit16))) t = .rt (.bl true) t := by kernel_rfl
theorem c5_16 (t : Tin) : sSeq A3 (sSeq A4 rest5) (ev9 5 16 none) t = .rt (.bl true) t := c_gen 5 16 lit16 t (ch16 t) (lc16 t) ne16 (r5_16 t)
theorem r7_16 (t : Tin) : rest5 (ev9 7 16 (some (false, lit16))) t = .rt (.bl true) t := by kernel_rfl
theorem c7_16 (t : Tin) : sSeq A3 (sSeq A4 rest5) (ev9 7 16 none) t = .rt (.bl true) t := c_gen 7 16 lit16 t (ch16 t) (lc16 t) ne16 (r7_16 t)
def lit17 : Val := Val.tup [Val.tup [Val.int (0), Val.int 1], Val.tup [Val.int (1), Val.int 17], Val.tup [Val.int (-143327), Val.int 720720], Val.tup [Val.int (58433327), Val.int 201801600], Val.tup [Val.int (-4446371981), Val.int 18162144000], Val.tup [Val.int (2195261857), Val.int 16144128000], Val.tup [Val.int (-38101097), Val.int 718502400], Val.tup [Val.int (86853967), Val.int 5748019200], Val.tup [Val.int (-8424673), Val.int 2612736000], Val.tup [Val.int (76492463), Val.int 146313216000], Val.tup [Val.int (-59279), Val.int 914457600], Val.tup [Val.int (44941), Val.int 7315660800], Val.tup [Val.int (-6341), Val.int 14370048000], Val.tup [Val.int (2713), Val.int 114960384000], Val.tup [Val.int (-17), Val.int 18681062400], Val.tup [Val.int (1), Val.int 41845579776], Val.tup [Val.int (-1), Val.int 2615348736000], Val.tup [Val.int (1), Val.int 355687428096000]]
theorem ch17 (t : Tin) : g_chosen_poly [.int 17] t = .ok lit17 t := by kernel_rfl
theorem lc17 (t : Tin) : g__law_chosen [.int 17] t = .ok lit17 t := by kernel_rfl
theorem ne17 : cNe lit17 lit17 = some (.bl false) := by kernel_rfl
theorem r2_17 (t : Tin) : rest5 (ev9 2 17 (some (false, lit17))) t = .rt (.bl true) t := by kernel_rfl
theorem c2_17 (t : Tin) : sSeq A3 (sSeq A4 rest5) (ev9 2 17 none) t = .rt (.bl true) t := c_gen 2 17 lit17 t (ch17 t) (lc17 t) ne17 (r2_17 t)
theorem r3_17 (t : Tin) : rest5 (ev9 3 17 (some (false, lit17))) t = .rt (.bl true) t := by kernel_rfl
theorem c3_17 (t : Tin) : sSeq A3 (sSeq A4 rest5) (ev9 3 17 none) t = .rt (.bl true) t := c_gen 3 17 lit17 t (ch17 t) (lc17 t) ne17 (r3_17 t)
theorem r5_17 (t : Tin) : rest5 (ev9 5 17 (some (false, lit17))) t = .rt (.bl true) t := by kernel_rfl
theorem c5_17 (t : Tin) : sSeq A3 (sSeq A4 rest5) (ev9 5 17 none) t = .rt (.bl true) t := c_gen 5 17 lit17 t (ch17 t) (lc17 t) ne17 (r5_17 t)
theorem r7_17 (t : Tin) : rest5 (ev9 7 17 (some (false, lit17))) t = .rt (.bl true) t := by kernel_rfl
theorem c7_17 (t : Tin) : sSeq A3 (sSeq A4 rest5) (ev9 7 17 none) t = .rt (.bl true) t := c_gen 7 17 lit17 t (ch17 t) (lc17 t) ne17 (r7_17 t)
def lit18 : Val := Val.tup [Val.tup [Val.int (0), Val.int 1], Val.tup [Val.int (-1), Val.int 18], Val.tup [Val.int (42142223), Val.int 220540320], Val.tup [Val.int (-344499373), Val.int 1210809600], Val.tup [Val.int (80847323107), Val.int 326918592000], Val.tup [Val.int (-371446039969), Val.int 2615348736000], Val.tup [Val.int (1356664151597), Val.int 23538138624000], Val.tup [Val.int (-13195009), Val.int 766402560], Val.tup [Val.int (334947281), Val.int 86220288000], Val.tup [Val.int (-7292813), Val.int 10838016000], Val.tup [Val.int (79243781), Val.int 877879296000], Val.tup [Val.int (-137581), Val.int 14631321600], Val.tup [Val.int (5490071), Val.int 7242504192000], Val.tup [Val.int (-3587), Val.int 76640256000], Val.tup [Val.int (19463), Val.int 8966909952000], Val.tup [Val.int (-17), Val.int 232475443200], Val.tup [Val.int (53), Val.int 31384184832000], Val.tup [Val.int (-1), Val.int 41845579776000], Val.tup [Val.int (1), Val.int 6402373705728000]]
theorem ch18 (t : Tin) : g_chosen_poly [.int 18] t = .ok lit18 t := by kernel_rfl
theorem lc18 (t : Tin) : g__law_chosen [.int 18] t = .ok lit18 t := by kernel_rfl
theorem ne18 : cNe lit18 lit18 = some (.bl false) := by kernel_rfl
theorem r2_18 (t : Tin) : rest5 (ev9 2 18 (some (false, lit18))) t = .rt (.bl true) t := by kernel_rfl
theorem c2_18 (t : Tin) : sSeq A3 (sSeq A4 rest5) (ev9 2 18 none) t = .rt (.bl true) t := c_gen 2 18 lit18 t (ch18 t) (lc18 t) ne18 (r2_18 t)
theorem r3_18 (t : Tin) : rest5 (ev9 3 18 (some (false, lit18))) t = .rt (.bl true) t := by kernel_rfl
theorem c3_18 (t : Tin) : sSeq A3 (sSeq A4 rest5) (ev9 3 18 none) t = .rt (.bl true) t := c_gen 3 18 lit18 t (ch18 t) (lc18 t) ne18 (r3_18 t)
theorem r5_18 (t : Tin) : rest5 (ev9 5 18 (some (false, lit18))) t = .rt (.bl true) t := by kernel_rfl
theorem c5_18 (t : Tin) : sSeq A3 (sSeq A4 rest5) (ev9 5 18 none) t = .rt (.bl true) t := c_gen 5 18 lit18 t (ch18 t) (lc18 t) ne18 (r5_18 t)
theorem r7_18 (t : Tin) : rest5 (ev9 7 18 (some (false, lit18))) t = .rt (.bl true) t := by kernel_rfl
theorem c7_18 (t : Tin) : sSeq A3 (sSeq A4 rest5) (ev9 7 18 none) t = .rt (.bl true) t := c_gen 7 18 lit18 t (ch18 t) (lc18 t) ne18 (r7_18 t)
def lit19 : Val := Val.tup [Val.tup [Val.int (0), Val.int 1], Val.tup [Val.int (1), Val.int 19], Val.tup [Val.int (-751279), Val.int 4084080], Val.tup [Val.int (784809203), Val.int 2806876800], Val.tup [Val.int (-2263547729), Val.int 9081072000], Val.tup [Val.int (27566944753), Val.int 186810624000], Val.tup [Val.int (-162356544377), Val.int 2615348736000], Val.tup [Val.int (227663026369), Val.int 11769069312000], Val.tup [Val.int (-9764119), Val.int 2128896000], Val.tup [Val.int (4065163957), Val.int 4828336128000], Val.tup [Val.int (-11795941), Val.int 97542144000], Val.tup [Val.int (1713017), Val.int 125411328000], Val.tup [Val.int (-976163), Val.int 804722688000], Val.tup [Val.int (27731), Val.int 329204736000], Val.tup [Val.int (-1501), Val.int 332107776000], Val.tup [Val.int (11519), Val.int 62768369664000], Val.tup [Val.int (-19), Val.int 3487131648000], Val.tup [Val.int (1), Val.int 8966909952000], Val.tup [Val.int (-1), Val.int 711374856192000], Val.tup [Val.int (1), Val.int 121645100408832000]]
theorem ch19 (t : Tin) : g_chosen_poly [.int 19] t = .ok lit19 t := by kernel_rfl
theorem lc19 (t : Tin) : g__law_chosen [.int 19] t = .ok lit19 t := by kernel_rfl
theorem ne19 : cNe lit19 lit19 = some (.bl false) := by kernel_rfl
theorem r2_19 (t : Tin) : rest5 (ev9 2 19 (some (false, lit19))) t = .rt (.bl true) t := by kernel_rfl
theorem c2_19 (t : Tin) : sSeq A3 (sSeq A4 rest5) (ev9 2 19 none) t = .rt (.bl true) t := c_gen 2 19 lit19 t (ch19 t) (lc19 t) ne19 (r2_19 t)
theorem r3_19 (t : Tin) : rest5 (ev9 3 19 (some (false, lit19))) t = .rt (.bl true) t := by kernel_rfl
theorem c3_19 (t : Tin) : sSeq A3 (sSeq A4 rest5) (ev9 3 19 none) t = .rt (.bl true) t := c_gen 3 19 lit19 t (ch19 t) (lc19 t) ne19 (r3_19 t)
theorem r5_19 (t : Tin) : rest5 (ev9 5 19 (some (false, lit19))) t = .rt (.bl true) t := by kernel_rfl
theorem c5_19 (t : Tin) : sSeq A3 (sSeq A4 rest5) (ev9 5 19 none) t = .rt (.bl true) t := c_gen 5 19 lit19 t (ch19 t) (lc19 t) ne19 (r5_19 t)
theorem r7_19 (t : Tin) : rest5 (ev9 7 19 (some (false, lit19))) t = .rt (.bl true) t := by kernel_rfl
theorem c7_19 (t : Tin) : sSeq A3 (sSeq A4 rest5) (ev9 7 19 none) t = .rt (.bl true) t := c_gen 7 19 lit19 t (ch19 t) (lc19 t) ne19 (r7_19 t)
def lit20 : Val := Val.tup [Val.tup [Val.int (0), Val.int 1], Val.tup [Val.int (-1), Val.int 20], Val.tup [Val.int (275295799), Val.int 1551950400], Val.tup [Val.int (-169704792667), Val.int 617512896000], Val.tup [Val.int (32262100943), Val.int 128648520000], Val.tup [Val.int (-31938836201), Val.int 209227898880], Val.tup [Val.int (694142313941), Val.int 10461394944000], Val.tup [Val.int (-2022480780283), Val.int 94152554496000], Val.tup [Val.int (5013017410969), Val.int 941525544960000], Val.tup [Val.int (-3975325483), Val.int 3862668902400], Val.tup [Val.int (6063698587), Val.int 38626689024000], Val.tup [Val.int (-33399473), Val.int 1755758592000], Val.tup [Val.int (354467473), Val.int 193133445120000], Val.tup [Val.int (-815081), Val.int 5794003353600], Val.tup [Val.int (6406481), Val.int 753220435968000], Val.tup [Val.int (-10051), Val.int 25107347865600], Val.tup [Val.int (18017), Val.int 1255367393280000], Val.tup [Val.int (-19), Val.int 50214695731200], Val.tup [Val.int (59), Val.int 8536498274304000], Val.tup [Val.int (-1), Val.int 12804747411456000], Val.tup [Val.int (1), Val.int 2432902008176640000]]
theorem ch20 (t : Tin) : g_chosen_poly [.int 20] t = .ok lit20 t := by kernel_rfl
theorem lc20 (t : Tin) : g__law_chosen [.int 20] t = .ok lit20 t := by kernel_rfl
theorem ne20 : cNe lit20 lit20 = some (.bl false) := by kernel_rfl
theorem r2_20 (t : Tin) : rest5 (ev9 2 20 (some (false, lit20))) t = .rt (.bl true) t := by kernel_rfl
theorem c2_20 (t : Tin) : sSeq A3 (sSeq A4 rest5) (ev9 2 20 none) t = .rt (.bl true) t := c_gen 2 20 lit20 t (ch20 t) (lc20 t) ne20 (r2_20 t)
theorem r3_20 (t : Tin) : rest5 (ev9 3 20 (some (false, lit20))) t = .rt (.bl true) t := by kernel_rfl
theorem c3_20 (t : Tin) : sSeq A3 (sSeq A4 rest5) (ev9 3 20 none) t = .rt (.bl true) t := c_gen 3 20 lit20 t (ch20 t) (lc20 t) ne20 (r3_20 t)
theorem r5_20 (t : Tin) : rest5 (ev9 5 20 (some (false, lit20))) t = .rt (.bl true) t := by kernel_rfl
theorem c5_20 (t : Tin) : sSeq A3 (sSeq A4 rest5) (ev9 5 20 none) t = .rt (.bl true) t := c_gen 5 20 lit20 t (ch20 t) (lc20 t) ne20 (r5_20 t)
theorem r7_20 (t : Tin) : rest5 (ev9 7 20 (some (false, lit20))) t = .rt (.bl true) t := by kernel_rfl
theorem c7_20 (t : Tin) : sSeq A3 (sSeq A4 rest5) (ev9 7 20 none) t = .rt (.bl true) t := c_gen 7 20 lit20 t (ch20 t) (lc20 t) ne20 (r7_20 t)
def lit21 : Val := Val.tup [Val.tup [Val.int (0), Val.int 1], Val.tup [Val.int (1), Val.int 21], Val.tup [Val.int (-55835135), Val.int 325909584], Val.tup [Val.int (665690574539), Val.int 2463876455040], Val.tup [Val.int (-13334148911), Val.int 52929676800], Val.tup [Val.int (52460655692911), Val.int 333456963840000], Val.tup [Val.int (-31591404263), Val.int 448345497600], Val.tup [Val.int (6670985204447), Val.int 282457663488000], Val.tup [Val.int (-573738838201), Val.int 94152554496000], Val.tup [Val.int (12196364570297), Val.int 9886018222080000], Val.tup [Val.int (-109542331), Val.int 551809843200], Val.tup [Val.int (2965638101), Val.int 115880067072000], Val.tup [Val.int (-7321967), Val.int 2759049216000], Val.tup [Val.int (384794917), Val.int 1738201006080000], Val.tup [Val.int (-31849), Val.int 2152058388480], Val.tup [Val.int (12437081), Val.int 15817629155328000], Val.tup [Val.int (-587), Val.int 17933819904000], Val.tup [Val.int (3931), Val.int 3766102179840000], Val.tup [Val.int (-1), Val.int 40649991782400], Val.tup [Val.int (31), Val.int 76828484468736000], Val.tup [Val.int (-1), Val.int 243290200817664000], Val.tup [Val.int (1), Val.int 51090942171709440000]]
theorem ch21 (t : Tin) : g_chosen_poly [.int 21] t = .ok lit21 t := by kernel_rfl
theorem lc21 (t : Tin) : g__law_chosen [.int 21] t = .ok lit21 t := by kernel_rfl
theorem ne21 : cNe lit21 lit21 = some (.bl false) := by kernel_rfl
theorem r2_21 (t : Tin) : rest5 (ev9 2 21 (some (false, lit21))) t = .rt (.bl true) t := by kernel_rfl
theorem c2_21 (t : Tin) : sSeq A3 (sSeq A4 rest5) (ev9 2 21 none) t = .rt (.bl true) t := c_gen 2 21 lit21 t (ch21 t) (lc21 t) ne21 (r2_21 t)
theorem r3_21 (t : Tin) : rest5 (ev9 3 21 (some (false, lit21))) t = .rt (.bl true) t := by kernel_rfl
theorem c3_21 (t : Tin) : sSeq A3 (sSeq A4 rest5) (ev9 3 21 none) t = .rt (.bl true) t := c_gen 3 21 lit21 t (ch21 t) (lc21 t) ne21 (r3_21 t)
theorem r5_21 (t : Tin) : rest5 (ev9 5 21 (some (false, lit21))) t = .rt (.bl true) t := by kernel_rfl
theorem c5_21 (t : Tin) : sSeq A3 (sSeq A4 rest5) (ev9 5 21 none) t = .rt (.bl true) t := c_gen 5 21 lit21 t (ch21 t) (lc21 t) ne21 (r5_21 t)
theorem r7_21 (t : Tin) : rest5 (ev9 7 21 (some (false, lit21))) t = .rt (.bl true) t := by kernel_rfl
theorem c7_21 (t : Tin) : sSeq A3 (sSeq A4 rest5) (ev9 7 21 none) t = .rt (.bl true) t := c_gen 7 21 lit21 t (ch21 t) (lc21 t) ne21 (r7_21 t)
def lit22 : Val := Val.tup [Val.tup [Val.int (0), Val.int 1], Val.tup [Val.int (-1), Val.int 22], Val.tup [Val.int (18858053), Val.int 113809696], Val.tup [Val.int (-5667696059), Val.int 21332263680], Val.tup [Val.int (24909977895431), Val.int 98555058201600], Val.tup [Val.int (-466619011291), Val.int 2887073280000], Val.tup [Val.int (198501418554779), Val.int 2667655710720000], Val.tup [Val.int (-62964688697), Val.int 2445520896000], Val.tup [Val.int (29941630777), Val.int 4345502515200], Val.tup [Val.int (-62252308931), Val.int 42796615680000], Val.tup [Val.int (38843105724041), Val.int 158176291553280000], Val.tup [Val.int (-11187497), Val.int 334430208000], Val.tup [Val.int (1884722599), Val.int 509872295116800], Val.tup [Val.int (-713641), Val.int 2149908480000], Val.tup [Val.int (1093185311), Val.int 45193226158080000], Val.tup [Val.int (-194911), Val.int 136949170176000], Val.tup [Val.int (423809), Val.int 6327051662131200], Val.tup [Val.int (-1), Val.int 402554880000], Val.tup [Val.int (4541), Val.int 64023737057280000], Val.tup [Val.int (-1), Val.int 665181683712000], Val.tup [Val.int (1), Val.int 44915113997107200], Val.tup [Val.int (-1), Val.int 4865804016353280000], Val.tup [Val.int (1), Val.int 1124000727777607680000]]
theorem ch22 (t : Tin) : g_chosen_poly [.int 22] t = .ok lit22 t := by kernel_rfl
theorem lc22 (t : Tin) : g__law_chosen [.int 22] t = .ok lit22 t := by kernel_rfl
theorem ne22 : cNe lit22 lit22 = some (.bl false) := by kernel_rfl
theorem r2_22 (t : Tin) : rest5 (ev9 2 22 (some (false, lit22))) t = .rt (.bl true) t := by kernel_rfl
theorem c2_22 (t : Tin) : sSeq A3 (sSeq A4 rest5) (ev9 2 22 none) t = .rt (.bl true) t := c_gen 2 22 lit22 t (ch22 t) (lc22 t) ne22 (r2_22 t)
theorem r3_22 (t : Tin) : rest5 (ev9 3 22 (some (false, lit22))) t = .rt (.bl true) t := by kernel_rfl
theorem c3_22 (t : Tin) : sSeq A3 (sSeq A4 rest5) (ev9 3 22 none) t = .rt (.bl true) t := c_gen 3 22 lit22 t (ch22 t) (lc22 t) ne22 (r3_22 t)
theorem r5_22 (t : Tin) : rest5 (ev9 5 22 (some (false, lit22))) t = .rt (.bl true) t := by kernel_rfl
theorem c5_22 (t : Tin) : sSeq A3 (sSeq A4 rest5) (ev9 5 22 none) t = .rt (.bl true) t := c_gen 5 22 lit22 t (ch22 t) (lc22 t) ne22 (r5_22 t)
theorem r7_22 (t : Tin) : rest5 (ev9 7 22 (some (false, lit22))) t = .rt (.bl true) t := by kernel_rfl
theorem c7_22 (t : Tin) : sSeq A3 (sSeq A4 rest5) (ev9 7 22 none) t = .rt (.bl true) t := c_gen 7 22 lit22 t (ch22 t) (lc22 t) ne22 (r7_22 t)
def lit23 : Val := Val.tup [Val.tup [Val.int (0), Val.int 1], Val.tup [Val.int (1), Val.int 23], Val.tup [Val.int (-830139), Val.int 5173168], Val.tup [Val.int (337284946763), Val.int 1290601952640], Val.tup [Val.int (-1134791046427), Val.int 4479775372800], Val.tup [Val.int (143993848913701), Val.int 869603454720000], Val.tup [Val.int (-9482583349087), Val.int 121257077760000], Val.tup [Val.int (55746163243531), Val.int 2000741783040000], Val.tup [Val.int (-395960107159), Val.int 51355938816000], Val.tup [Val.int (2388095925497), Val.int 1412288317440000], Val.tup [Val.int (-2143543201063), Val.int 7189831434240000], Val.tup [Val.int (1687537294243), Val.int 39544072888320000], Val.tup [Val.int (-1156528757), Val.int 231760134144000], Val.tup [Val.int (6095824771), Val.int 12746807377920000], Val.tup [Val.int (-154353851), Val.int 4108475105280000], Val.tup [Val.int (109053877), Val.int 45193226158080000], Val.tup [Val.int (-362227), Val.int 2875932573696000], Val.tup [Val.int (836509), Val.int 158176291553280000], Val.tup [Val.int (-2047), Val.int 11640679464960000], Val.tup [Val.int (193), Val.int 42682491371520000], Val.tup [Val.int (-23), Val.int 265407491801088000], Val.tup [Val.int (1), Val.int 858671297003520000], Val.tup [Val.int (-1), Val.int 102181884343418880000], Val.tup [Val.int (1), Val.int 25852016738884976640000]]
theorem ch23 (t : Tin) : g_chosen_poly [.int 23] t = .ok lit23 t := by kernel_rfl
theorem lc23 (t : Tin) : g__law_chosen [.int 23] t = .ok lit23 t := by kernel_rfl
theorem ne23 : cNe lit23 lit23 = some (.bl false) := by kernel_rfl
theorem r2_23 (t : Tin) : rest5 (ev9 2 23 (some (false, lit23))) t = .rt (.bl true) t := by kernel_rfl
theorem c2_23 (t : Tin) : sSeq A3 (sSeq A4 rest5) (ev9 2 23 none) t = .rt (.bl true) t := c_gen 2 23 lit23 t (ch23 t) (lc23 t) ne23 (r2_23 t)
theorem r3_23 (t : Tin) : rest5 (ev9 3 23 (some (false, lit23))) t = .rt (.bl true) t := by kernel_rfl
theorem c3_23 (t : Tin) : sSeq A3 (sSeq A4 rest5) (ev9 3 23 none) t = .rt (.bl true) t := c_gen 3 23 lit23 t (ch23 t) (lc23 t) ne23 (r3_23 t)
theorem r5_23 (t : Tin) : rest5 (ev9 5 23 (some (false, lit23))) t = .rt (.bl true) t := by kernel_rfl
theorem c5_23 (t : Tin) : sSeq A3 (sSeq A4 rest5) (ev9 5 23 none) t = .rt (.bl true) t := c_gen 5 23 lit23 t (ch23 t) (lc23 t) ne23 (r5_23 t)
theorem r7_23 (t : Tin) : rest5 (ev9 7 23 (some (false, lit23))) t = .rt (.bl true) t := by kernel_rfl
theorem c7_23 (t : Tin) : sSeq A3 (sSeq A4 rest5) (ev9 7 23 none) t = .rt (.bl true) t := c_gen 7 23 lit23 t (ch23 t) (lc23 t) ne23 (r7_23 t)
def lit24 : Val := Val.tup [Val.tup [Val.int (0), Val.int 1], Val.tup [Val.int (-1), Val.int 24], Val.tup [Val.int (444316699), Val.int 2855588736], Val.tup [Val.int (-7964656853269), Val.int 30974446863360], Val.tup [Val.int (3299783159846801), Val.int 13009267682611200], Val.tup [Val.int (-60046405378466191), Val.int 354798209525760000], Val.tup [Val.int (348454192291823467), Val.int 4257578514309120000], Val.tup [Val.int (-2877248759722297), Val.int 96035605585920000], Val.tup [Val.int (9853030022299039), Val.int 1152427267031040000], Val.tup [Val.int (-696456182363), Val.int 358676398080000], Val.tup [Val.int (676049801696771), Val.int 1898115498639360000], Val.tup [Val.int (-33735230248957), Val.int 632705166213120000], Val.tup [Val.int (49809518679959), Val.int 7592461994557440000], Val.tup [Val.int (-25476631421), Val.int 38240422133760000], Val.tup [Val.int (333651966701), Val.int 5965505852866560000], Val.tup [Val.int (-116836987), Val.int 30128817438720000], Val.tup [Val.int (1679811449), Val.int 7592461994557440000], Val.tup [Val.int (-815879), Val.int 79088145776640000], Val.tup [Val.int (6274091), Val.int 16133981738434560000], Val.tup [Val.int (-17917), Val.int 1536569689374720000], Val.tup [Val.int (95101), Val.int 350337889177436160000], Val.tup [Val.int (-23), Val.int 4865804016353280000], Val.tup [Val.int (71), Val.int 1226182612121026560000], Val.tup [Val.int (-1), Val.int 2248001455555215360000], Val.tup [Val.int (1), Val.int 620448401733239439360000]]
theorem ch24 (t : Tin) : g_chosen_poly [.int 24] t = .ok lit24 t := by kernel_rfl
theorem lc24 (t : Tin) : g__law_chosen [.int 24] t = .ok lit24 t := by kernel_rfl
theorem ne24 : cNe lit24 lit24 = some (.bl false) := by kernel_rfl
theorem r2_24 (t : Tin) : rest5 (ev9 2 24 (some (false, lit24))) t = .rt (.bl true) t := by kernel_rfl
theorem c2_24 (t : Tin) : sSeq A3 (sSeq A4 rest5) (ev9 2 24 none) t = .rt (.bl true) t := c_gen 2 24 lit24 t (ch24 t) (lc24 t) ne24 (r2_24 t)
theorem r3_24 (t : Tin) : rest5 (ev9 3 24 (some (false, lit24))) t = .rt (.bl true) t := by kernel_rfl
theorem c3_24 (t : Tin) : sSeq A3 (sSeq A4 rest5) (ev9 3 24 none) t = .rt (.bl true) t := c_gen 3 24 lit24 t (ch24 t) (lc24 t) ne24 (r3_24 t)
theorem r5_24 (t : Tin) : rest5 (ev9 5 24 (some (false, lit24))) t = .rt (.bl true) t := by kernel_rfl
theorem c5_24 (t : Tin) : sSeq A3 (sSeq A4 rest5) (ev9 5 24 none) t = .rt (.bl true) t := c_gen 5 24 lit24 t (ch24 t) (lc24 t) ne24 (r5_24 t)
theorem r7_24 (t : Tin) : rest5 (ev9 7 24 (some (false, lit24))) t = .rt (.bl true) t := by kernel_rfl
theorem c7_24 (t : Tin) : sSeq A3 (sSeq A4 rest5) (ev9 7 24 none) t = .rt (.bl true) t := c_gen 7 24 lit24 t (ch24 t) (lc24 t) ne24 (r7_24 t)
theorem right_ok (n : Nat) (t : Tin) (g : Good (n + 2) t) : ∃ t', g__law_right [.tin] t = .ok (.bl true) t' ∧ Good n t' := by
  obtain ⟨v, t1, e1, hv, g1⟩ := of_ok (n := n + 1) (xs := [.int 2, .int 3, .int 5, .int 7]) g (by decide) (by decide)
  obtain ⟨k, t2, e2, k0, k1, g2⟩ := take_ok (below := 25) g1 (by decide) (by decide)
  have hp : ∃ p : Int, v = .int p ∧ (p = 2 ∨ p = 3 ∨ p = 5 ∨ p = 7) := by
    simp only [List.mem_cons, List.not_mem_nil, or_false] at hv
    rcases hv with rfl | rfl | rfl | rfl
    · exact ⟨2, rfl, .inl rfl⟩
    · exact ⟨3, rfl, .inr (.inl rfl)⟩
    · exact ⟨5, rfl, .inr (.inr (.inl rfl))⟩
    · exact ⟨7, rfl, .inr (.inr (.inr rfl))⟩
  obtain ⟨p, rfl, hp⟩ := hp
  have fin : sSeq A3 (sSeq A4 rest5) (ev9 p k none) t2 = .rt (.bl true) t2 := by
    have hk : k = 0 ∨ k = 1 ∨ k = 2 ∨ k = 3 ∨ k = 4 ∨ k = 5 ∨ k = 6 ∨ k = 7 ∨ k = 8 ∨ k = 9 ∨ k = 10 ∨ k = 11 ∨ k = 12 ∨ k = 13 ∨ k = 14 ∨ k = 15 ∨ k = 16 ∨ k = 17 ∨ k = 18 ∨ k = 19 ∨ k = 20 ∨ k = 21 ∨ k = 22 ∨ k = 23 ∨ k = 24 := by omega
    rcases hk with rfl | rfl | rfl | rfl | rfl | rfl | rfl | rfl | rfl | rfl | rfl | rfl | rfl | rfl | rfl | rfl | rfl | rfl | rfl | rfl | rfl | rfl | rfl | rfl | rfl <;> rcases hp with rfl | rfl | rfl | rfl
    · exact c2_0 t2
    · exact c3_0 t2
    · exact c5_0 t2
    · exact c7_0 t2
    · exact c2_1 t2
    · exact c3_1 t2
    · exact c5_1 t2
    · exact c7_1 t2
    · exact c2_2 t2
    · exact c3_2 t2
    · exact c5_2 t2
    · exact c7_2 t2
    · exact c2_3 t2
    · exact c3_3 t2
    · exact c5_3 t2
    · exact c7_3 t2
    · exact c2_4 t2
    · exact c3_4 t2
    · exact c5_4 t2
    · exact c7_4 t2
    · exact c2_5 t2
    · exact c3_5 t2
    · exact c5_5 t2
    · exact c7_5 t2
    · exact c2_6 t2
    · exact c3_6 t2
    · exact c5_6 t2
    · exact c7_6 t2
    · exact c2_7 t2
    · exact c3_7 t2
    · exact c5_7 t2
    · exact c7_7 t2
    · exact c2_8 t2
    · exact c3_8 t2
    · exact c5_8 t2
    · exact c7_8 t2
    · exact c2_9 t2
    · exact c3_9 t2
    · exact c5_9 t2
    · exact c7_9 t2
    · exact c2_10 t2
    · exact c3_10 t2
    · exact c5_10 t2
    · exact c7_10 t2
    · exact c2_11 t2
    · exact c3_11 t2
    · exact c5_11 t2
    · exact c7_11 t2
    · exact c2_12 t2
    · exact c3_12 t2
    · exact c5_12 t2
    · exact c7_12 t2
    · exact c2_13 t2
    · exact c3_13 t2
    · exact c5_13 t2
    · exact c7_13 t2
    · exact c2_14 t2
    · exact c3_14 t2
    · exact c5_14 t2
    · exact c7_14 t2
    · exact c2_15 t2
    · exact c3_15 t2
    · exact c5_15 t2
    · exact c7_15 t2
    · exact c2_16 t2
    · exact c3_16 t2
    · exact c5_16 t2
    · exact c7_16 t2
    · exact c2_17 t2
    · exact c3_17 t2
    · exact c5_17 t2
    · exact c7_17 t2
    · exact c2_18 t2
    · exact c3_18 t2
    · exact c5_18 t2
    · exact c7_18 t2
    · exact c2_19 t2
    · exact c3_19 t2
    · exact c5_19 t2
    · exact c7_19 t2
    · exact c2_20 t2
    · exact c3_20 t2
    · exact c5_20 t2
    · exact c7_20 t2
    · exact c2_21 t2
    · exact c3_21 t2
    · exact c5_21 t2
    · exact c7_21 t2
    · exact c2_22 t2
    · exact c3_22 t2
    · exact c5_22 t2
    · exact c7_22 t2
    · exact c2_23 t2
    · exact c3_23 t2
    · exact c5_23 t2
    · exact c7_23 t2
    · exact c2_24 t2
    · exact c3_24 t2
    · exact c5_24 t2
    · exact c7_24 t2
  refine ⟨t2, runDef_rt rfl ((sSeq_nx (e' := [some (false, .tin), some (false, .int p), none, none, none, none, none, none, none]) (t' := t1) (sAsg_ok (eCall_ok (aCons_ok rfl (aCons_ok rfl rfl)) e1) rfl)).trans ((sSeq_nx (e' := ev9 p k none) (t' := t2) (sAsg_ok (eCall_ok (aCons_ok rfl (aCons_ok rfl rfl)) e2) rfl)).trans fin)), g2⟩
theorem pure_law (ns : List Int) (hl : ns.length ≤ 63) (hb : ∀ z ∈ ns, Builtin.Int.intBits z ≤ 1048576) : lawRun (e_tin GL) (e_all GL) 3 ns :=
  pure_of 2 5 (by decide) (by decide) right_ok rfl ns hl hb

end NfLaw
namespace NfLaw
open PySem PySem.Spec PyProof.Rows L2 Nf
def nm0 : List PySem.Str := ["CanNot", "TooMany", "Unfit", "is_number", "is_within", "sure_within", "is_long", "are_numbers", "tupled", "common_of", "least_of", "slim", "times", "is_fraction", "primes_of", "power_in", "MOST_DEGREE", "MOST_ENTRY", "NOUGHT", "is_poly", "sure_poly", "bare", "scaled_in", "whole_row", "value_in", "roots_product", "is_all_whole", "chosen_in", "chosen_poly", "MOST_RESTS"]
def nm1 : List PySem.Str := ["MOST_LONG", "MOST_ROUND", "sure_rests", "power_of", "clash_in", "reach_of", "can_tell_rests", "tells_rests", "is_rests_poly", "sure_whole", "long_round", "poly_rests", "_law_box", "_law_take", "_law_cells", "_law_of", "_law_same", "_law_gcd", "_law_slim", "_law_plus", "_law_times", "_law_thin", "_law_scale", "_law_mul", "_law_value", "_law_roots", "_law_chosen", "_law_few", "_law_due", "_law_right"]
def nms : List PySem.Str := nm0 ++ nm1
abbrev R : PySem.W.OpenRow := PySem.W.OpenLaw.row PySem.Challenge.rw_neverfraction_k44_across_chosen_by_figur
abbrev hk : PySem.W.Hook := hookU 4 fa fn tu
def ob (s : PySem.W.SharedT) : AlU := obsUG 4 fa fn tu (HandSHeadRun.getT s)
theorem ob_eq (s : PySem.W.SharedT) : ob s = hk.obs s.abs := obsUG_eq (HandSHeadRun.getT_eq s)
theorem run (w : World) : HandSHeadRun.RunEq R (PySem.W.view R.prog [66]) hk ob 6000 nms w := by
  intro os
  kernel_rfl
end NfLaw
open PySem PySem.W PySem.Calls PyProof.Rows
theorem PySem.Challenge.cw_neverfraction_k44_across_chosen_by_figur_holds : PySem.Challenge.rw_neverfraction_k44_across_chosen_by_figur.Holds := by
  w_on; o_law
  refine HandSHeadRun.head_any (r := OpenLaw.row PySem.Challenge.rw_neverfraction_k44_across_chosen_by_figur) (q := view (OpenLaw.row PySem.Challenge.rw_neverfraction_k44_across_chosen_by_figur).prog [66]) (H := NfLaw.hk) (ob := NfLaw.ob) (M := 6000) (loose := NfLaw.nms) (d := HandSHeadRun.topDef (OpenLaw.row PySem.Challenge.rw_neverfraction_k44_across_chosen_by_figur).prog 66) (kwd := []) NfLaw.ob_eq
    (by kernel_rfl) (fun s => by kernel_rfl) NfLaw.run (by kernel_rfl) (by kernel_rfl) (by kernel_rfl) (by rfl) (by first | assumption | decide +kernel) (by decide +kernel) ⟨rfl, rfl, rfl, rfl, rfl, by decide +kernel⟩ ?hw ?hc
  case hw => w_witness2
  case hc =>
    refine Nf.walk_ofEB (l := PySem.Challenge.rw_neverfraction_k44_across_chosen_by_figur) (n := 63) (k := 14) (x := "script") (CX := L2.CX0) rfl (by decide) (by kernel_rfl) ⟨rfl, by decide, by decide⟩ ?F (fun _ _ _ _ z => z)
    intro w mg fa h Y G hmg0
    obtain ⟨K, KX, c0⟩ := Y
    have c : Nf.Cn NfLaw.fa NfLaw.fn NfLaw.tu K mg := ⟨c0, h, KX, G⟩
    have hmg : mg ("law" : PySem.Str) = some (.ref fa) := by
      have e : (HandSHeadRun.topDef (OpenLaw.row PySem.Challenge.rw_neverfraction_k44_across_chosen_by_figur).prog 66).name = ("law" : PySem.Str) := by kernel_rfl
      rw [← e]
      exact hmg0
    have e := hmg.symm.trans (c.g 51 rfl)
    cases e
    exact ⟨K, Nf.fdOf K (He.ga K "law"), Nf.spLaw K (Nf.lawRun (NfLaw.e_tin NfLaw.GL) (NfLaw.e_all NfLaw.GL) 3), KX,
      fun s v => L2.FunD.bindsA (ps := ["script"]) (NfLaw.f_law c) (fun _ _ _ _ _ _ us hl => match us, hl with | [_], _ => rfl) s [v] rfl,
      fun H a ns hl hb hO hS => ⟨a, ns, rfl, hS, hO, NfLaw.pure_law ns hl hb, fun _ => rfl⟩, fun base _ _ => NfLaw.o_law c⟩
