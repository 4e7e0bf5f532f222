import PyProof.Rows.All
import Wide.All
import OpenK.AllK
import Wide.FinOn
import KE.KStateDown
import HandS.ForMost
import HandS.ForExc
import HandS.Defaults
import HandS.MakeKw
import HandS.MakeKwOnly
import HandS.CallSlots
import HandS.HotCalls
import HandS.ExcInit
import HandS.ExcIs
import HandS.ExcField
import HandS.IsInst
import HandS.Wide
import HandS.Conv
import HandS.TupAny
import HandS.Head0
import HandS.Head1
import HandS.Head2
import HandS.HeadEnd
import HandS.HeadHook1
import HandS.HeadHook2
import HandS.HeadHook3
import HandS.HeadHook4
import KE.DataEq
import KE.KTupSum
import HandS.SortInts
import KE.GoesEnum
import HandS.Star
import Lean
import PySem.Challenge.RW_cutboards_k09_deeds_in_order
set_option linter.all false
/-! CbSem: a small functional reading of the programs' Python: values, a store of lists that are still built, expressions and statements as functions. -/
namespace Cb
open PySem (Str)

inductive D where
  | non
  | bl (b : Bool)
  | int (i : Int)
  | str (x : Str)
  | tup (xs : List D)
  | lst (xs : List D)
  | scr (xs : List D)
  | obj (C : String) (fs : List String) (xs : List D)
  | exn (C : String) (fs : List String) (xs : List D)
  | ref (n : Nat)
  | cls (C : String)
  | ty (n : String)
  deriving Inhabited

mutual
/-- no live object is named within -/
def D.gnd : D → Bool
  | .tup xs => D.gnds xs
  | .lst xs => D.gnds xs
  | .scr xs => D.gnds xs
  | .obj _ _ xs => D.gnds xs
  | .exn _ _ xs => D.gnds xs
  | .ref _ => false
  | _ => true
def D.gnds : List D → Bool
  | [] => true
  | d :: ds => d.gnd && D.gnds ds
end
mutual
/-- Python's == of data -/
def D.eqv : D → D → Bool
  | .non, .non => true
  | .bl a, .bl b => a == b
  | .bl a, .int j => (if a then 1 else 0) == j
  | .int i, .bl b => i == (if b then 1 else 0)
  | .int i, .int j => i == j
  | .str x, .str y => x == y
  | .tup xs, .tup ys => D.eqvs xs ys
  | .lst xs, .lst ys => D.eqvs xs ys
  | .lst xs, .scr ys => D.eqvs xs ys
  | .scr xs, .lst ys => D.eqvs xs ys
  | .scr xs, .scr ys => D.eqvs xs ys
  | _, _ => false
def D.eqvs : List D → List D → Bool
  | [], [] => true
  | x :: xs, y :: ys => x.eqv y && D.eqvs xs ys
  | _, _ => false
end
mutual
/-- data that == serves, nested at most n deep -/
def D.plain : Nat → D → Bool
  | _, .non => true
  | _, .bl _ => true
  | _, .int _ => true
  | _, .str _ => true
  | 0, _ => false
  | n + 1, .tup xs => D.plains n xs
  | n + 1, .lst xs => D.plains n xs
  | n + 1, .scr xs => D.plains n xs
  | _, _ => false
def D.plains : Nat → List D → Bool
  | _, [] => true
  | n, d :: ds => d.plain n && D.plains n ds
end

/-- what is still built -/
inductive SO where
  | lst (xs : List D)
  | dct (kvs : List (D × D))
  | ins (C : String) (fs : List String) (xs : List D)
  | dead
  deriving Inhabited
abbrev Sto := List SO
inductive R (α : Type) where
  | ok (a : α) (st : Sto)
  | exc (C : String) (fs : List String) (xs : List D) (st : Sto)
  | bad
abbrev Env := List (Option D)
inductive Fl where
  | nx (env : Env)
  | rt (d : D)
  | bk (env : Env)
  | ct (env : Env)
inductive RS where
  | ok (f : Fl) (st : Sto)
  | exc (C : String) (fs : List String) (xs : List D) (env : Env) (st : Sto)
  | bad
def R.bnd {α β : Type} (r : R α) (k : α → Sto → R β) : R β := match r with
  | .ok a st => k a st
  | .exc C fs xs st => .exc C fs xs st
  | .bad => .bad
/-- an expression's answer, for a statement -/
def R.st {α : Type} (r : R α) (env : Env) (k : α → Sto → RS) : RS := match r with
  | .ok a st => k a st
  | .exc C fs xs st => .exc C fs xs env st
  | .bad => .bad
def R.of {α : Type} (o : Option α) (st : Sto) : R α := match o with
  | some a => .ok a st
  | none => .bad
abbrev Ex := Env → Sto → R D
abbrev Tx := Env → Sto → R Bool
abbrev Ax := Env → Sto → R (List D)
abbrev Sx := Env → Sto → RS
abbrev Fn := List D → Sto → R D

/-- a live list as it stands -/
def view (st : Sto) : D → D
  | .ref n => (match st[n]? with
    | some (.lst xs) => .lst xs
    | _ => .ref n)
  | d => d

/-- a place in a sequence of n -/
def ixD (n : Nat) (i : Int) : Option Nat := if 0 ≤ i then (if i < n then some i.toNat else none) else if -(n : Int) ≤ i then some (i + n).toNat else none
/-- a program's classes: plain ones, exceptions; who is whose -/
structure Pg where
  own : List String
  exc : List String
  fld : List (String × String)
  con : List ((String × String) × Int)
  ct : List ((String ⊕ String) × (String ⊕ String) × Bool)
/-! ### expressions -/
def eVar (i : Nat) : Ex := fun env st => match env[i]? with
  | some (some d) => .ok d st
  | _ => .bad
def eC (d : D) : Ex := fun _ st => .ok d st
/-- a unary, a binary operation on values as they stand -/
def eU (f : D → Option D) (a : Ex) : Ex := fun env st => (a env st).bnd fun x st1 => R.of (f (view st1 x)) st1
def eB (f : D → D → Option D) (a b : Ex) : Ex := fun env st => (a env st).bnd fun x st1 => (b env st1).bnd fun y st2 => R.of (f (view st2 x) (view st2 y)) st2
/-- a chain x op y op' z -/
def eCh (f g : D → D → Option D) (a b c : Ex) : Ex := fun env st => (a env st).bnd fun x st1 => (b env st1).bnd fun y st2 => match f (view st2 x) (view st2 y) with
  | some (.bl true) => (c env st2).bnd fun z st3 => R.of (g (view st3 y) (view st3 z)) st3
  | some (.bl false) => .ok (.bl false) st2
  | _ => .bad
def eAnd (a b : Ex) : Ex := fun env st => (a env st).bnd fun x st1 => match x with
  | .bl true => b env st1
  | .bl false => .ok (.bl false) st1
  | _ => .bad
def eOr (a b : Ex) : Ex := fun env st => (a env st).bnd fun x st1 => match x with
  | .bl true => .ok (.bl true) st1
  | .bl false => b env st1
  | _ => .bad
def eNot (a : Ex) : Ex := fun env st => (a env st).bnd fun x st1 => match x with
  | .bl b => .ok (.bl (!b)) st1
  | _ => .bad
def eIf (c : Tx) (a b : Ex) : Ex := fun env st => (c env st).bnd fun t st1 => if t then a env st1 else b env st1
def aNil : Ax := fun _ st => .ok [] st
def aCons (a : Ex) (as : Ax) : Ax := fun env st => (a env st).bnd fun x st1 => (as env st1).bnd fun xs st2 => .ok (x :: xs) st2
/-- *a, .. -/
def aStar (a : Ex) (as : Ax) : Ax := fun env st => (a env st).bnd fun x st1 => match x with
  | .lst xs => (as env st1).bnd fun ys st2 => .ok (xs ++ ys) st2
  | .tup xs => (as env st1).bnd fun ys st2 => .ok (xs ++ ys) st2
  | .scr xs => (as env st1).bnd fun ys st2 => .ok (xs ++ ys) st2
  | _ => .bad
def eTup (as : Ax) : Ex := fun env st => (as env st).bnd fun xs st1 => if xs.length ≤ 1000000 then .ok (.tup xs) st1 else .bad
def eLst (as : Ax) : Ex := fun env st => (as env st).bnd fun xs st1 => if xs.length ≤ 1000000 then .ok (.lst xs) st1 else .bad
/-- a list that is built further -/
def eLstL (as : Ax) : Ex := fun env st => (as env st).bnd fun xs st1 => if xs.length ≤ 1000000 ∧ D.gnds xs = true then .ok (.ref st1.length) (st1 ++ [.lst xs]) else .bad
def eCall (F : Fn) (as : Ax) : Ex := fun env st => (as env st).bnd F
/-- f(.., k = v, ..): g orders the values, defaults too -/
def eCallG (F : Fn) (g : List D → List D → List D) (as ak : Ax) : Ex := fun env st => (as env st).bnd fun xs st1 => (ak env st1).bnd fun ys st2 => F (g xs ys) st2
/-- C(..): a new instance, its __init__ F; then it stands as it is -/
def mkD (C : String) (F : Fn) (ds : List D) (st : Sto) : R D := match F (.ref st.length :: ds) (st ++ [.ins C [] []]) with
  | .ok .non st2 => (match st2[st.length]? with
    | some (.ins C' fs ys) => if C' = C then .ok (.obj C fs ys) (st2.take st.length) else .bad
    | _ => .bad)
  | .ok _ _ => .bad
  | .exc C' fs xs st2 => .exc C' fs xs (st2.take st.length)
  | .bad => .bad
def eMake (C : String) (F : Fn) (g : List D → List D → List D) (as ak : Ax) : Ex := fun env st => (as env st).bnd fun xs st1 => (ak env st1).bnd fun ys st2 => mkD C F (g xs ys) st2
/-! ### tests -/
def tB (a : Ex) : Tx := fun env st => (a env st).bnd fun x st1 => match x with
  | .bl b => .ok b st1
  | _ => .bad
def tAnd (a b : Tx) : Tx := fun env st => (a env st).bnd fun x st1 => if x then b env st1 else .ok false st1
def tOr (a b : Tx) : Tx := fun env st => (a env st).bnd fun x st1 => if x then .ok true st1 else b env st1
def tNot (a : Tx) : Tx := fun env st => (a env st).bnd fun x st1 => .ok (!x) st1
def tYes : Tx := fun _ st => .ok true st

/-! ### targets -/
abbrev Gx := D → Env → Option Env
def gName (i : Nat) : Gx := fun d env => some (env.set i (some d))
def gNil : List D → Env → Option Env := fun ds env => match ds with
  | [] => some env
  | _ => none
def gCons (g : Gx) (gs : List D → Env → Option Env) : List D → Env → Option Env := fun ds env => match ds with
  | d :: r => (g d env).bind (gs r)
  | _ => none
def gTup (gs : List D → Env → Option Env) : Gx := fun d env => match d with
  | .tup ds => gs ds env
  | _ => none

/-! ### statements -/
def sNil : Sx := fun env st => .ok (.nx env) st
def sSeq (a b : Sx) : Sx := fun env st => match a env st with
  | .ok (.nx env1) st1 => b env1 st1
  | r => r
def sIf (c : Tx) (a b : Sx) : Sx := fun env st => (c env st).st env fun t st1 => if t then a env st1 else b env st1
def sRet (a : Ex) : Sx := fun env st => (a env st).st env fun d st1 => .ok (.rt d) st1
def sBreak : Sx := fun env st => .ok (.bk env) st
def sCont : Sx := fun env st => .ok (.ct env) st
def sDrop (a : Ex) : Sx := fun env st => (a env st).st env fun _ st1 => .ok (.nx env) st1
def sAsg (a : Ex) (g : Gx) : Sx := fun env st => (a env st).st env fun d st1 => match g d env with
  | some env1 => .ok (.nx env1) st1
  | none => .bad
def sAug (i : Nat) (f : D → D → Option D) (a : Ex) : Sx := fun env st => match env[i]? with
  | some (some x) => (a env st).st env fun y st1 => match f x y with
    | some z => .ok (.nx (env.set i (some z))) st1
    | none => .bad
  | _ => .bad
/-- the live list in slot i is built no further -/
def sFrz (i : Nat) : Sx := fun env st => match env[i]? with
  | some (some (.ref n)) => (match st[n]? with
    | some (.lst xs) => .ok (.nx (env.set i (some (.lst xs)))) (st.set n .dead)
    | _ => .bad)
  | _ => .bad
/-- self.f = e -/
def sFld (P : Pg) (i : Nat) (f : String) (a : Ex) : Sx := fun env st => (a env st).st env fun d st1 => match env[i]? with
  | some (some (.ref n)) => (match st1[n]? with
    | some (.ins C fs xs) => if d.gnd = true ∧ fs.length < 1000 ∧ f ∉ fs ∧ C ∈ P.own ∧ (C, f) ∈ P.fld then .ok (.nx env) (st1.set n (.ins C (fs ++ [f]) (xs ++ [d]))) else .bad
    | _ => .bad)
  | _ => .bad
/-- xs.append(e), xs in slot i -/
def sApp (i : Nat) (a : Ex) : Sx := fun env st => match env[i]? with
  | some (some (.ref n)) => (match st[n]? with
    | some (.lst _) => (a env st).st env fun d st1 => (match st1[n]? with
      | some (.lst xs) => if d.gnd = true ∧ xs.length < 1000000 then .ok (.nx env) (st1.set n (.lst (xs ++ [d]))) else .bad
      | _ => .bad)
    | _ => .bad)
  | _ => .bad
/-- xs[k] = e, xs in slot i -/
def sSet (i : Nat) (k a : Ex) : Sx := fun env st => (a env st).st env fun d st1 => match env[i]? with
  | some (some (.ref n)) => (k env st1).st env fun z st2 => (match z with
    | .int j => (match st2[n]? with
      | some (.lst xs) => (match ixD xs.length j with
        | some q => if d.gnd = true then .ok (.nx env) (st2.set n (.lst (xs.set q d))) else .bad
        | none => .bad)
      | _ => .bad)
    | _ => .bad)
  | _ => .bad
def sRaise (C : String) (fs : List String) (as : Ax) : Sx := fun env st => (as env st).st env fun ds st1 => if ds.length = fs.length ∧ D.gnds ds = true then .exc C fs ds env st1 else .bad
/-! loops -/
def forL (g : Gx) (b : Sx) : List D → Env → Sto → RS
  | [], env, st => .ok (.nx env) st
  | d :: ds, env, st => match g d env with
    | none => .bad
    | some env1 => match b env1 st with
      | .ok (.nx env2) st2 => forL g b ds env2 st2
      | .ok (.ct env2) st2 => forL g b ds env2 st2
      | .ok (.bk env2) st2 => .ok (.nx env2) st2
      | r => r
def sFor (src : Ax) (g : Gx) (b : Sx) : Sx := fun env st => (src env st).st env fun ds st1 => forL g b ds env st1
def whileN (c : Tx) (b : Sx) : Nat → Env → Sto → RS
  | 0, _, _ => .bad
  | n + 1, env, st => (c env st).st env fun t st1 => if t then (match b env st1 with
      | .ok (.nx env2) st2 => whileN c b n env2 st2
      | .ok (.ct env2) st2 => whileN c b n env2 st2
      | .ok (.bk env2) st2 => .ok (.nx env2) st2
      | r => r) else .ok (.nx env) st1
def sWhile (N : Nat) (c : Tx) (b : Sx) : Sx := whileN c b N
/-- the list is built as a live one at n, by turns -/
def lcL (g : Gx) (c : Tx) (e : Ex) (n : Nat) : List D → Env → Sto → R (List D)
  | [], _, st => (match st[n]? with
    | some (.lst acc) => .ok acc st
    | _ => .bad)
  | d :: ds, env, st => match g d env with
    | none => .bad
    | some env1 => match c env1 st with
      | .ok true st1 => (match e env1 st1 with
        | .ok x st2 => (match st2[n]? with
          | some (.lst acc) => if x.gnd = true ∧ acc.length < 1000000 then lcL g c e n ds env (st2.set n (.lst (acc ++ [x]))) else .bad
          | _ => .bad)
        | _ => .bad)
      | .ok false st1 => lcL g c e n ds env st1
      | _ => .bad
def wipeE (env : Env) : List Nat → Env
  | [] => env
  | v :: vs => (wipeE env vs).set v none
/-- [e for g in src if c]; own: the slots of its own names -/
def eLc (src : Ax) (g : Gx) (own : List Nat) (c : Tx) (e : Ex) : Ex := fun env st => (src env st).bnd fun ds st1 => (lcL g c e st1.length ds (wipeE env own) (st1 ++ [.lst []])).bnd fun xs st2 => .ok (.lst xs) (st2.take st1.length)
/-- try: b except C as slot i: s -/
def sTry (b : Sx) (sub : String → Bool) (i : Nat) (s : Sx) : Sx := fun env st => match b env st with
  | .exc C fs xs env1 st1 => if sub C then (match s (env1.set i (some (.exn C fs xs))) st1 with
      | .ok (.nx env2) st2 => .ok (.nx (env2.set i none)) st2
      | .ok (.bk env2) st2 => .ok (.bk (env2.set i none)) st2
      | .ok (.ct env2) st2 => .ok (.ct (env2.set i none)) st2
      | .ok (.rt d) st2 => .ok (.rt d) st2
      | _ => .bad) else .exc C fs xs env1 st1
  | r => r

/-! ### functions -/
/-- what a function hands back: a live list of its own is built no further; its own live objects go -/
def finR (base : Nat) (d : D) (st : Sto) : R D := match d with
  | .ref k => if k < base then .ok (.ref k) (st.take base) else (match st[k]? with
    | some (.lst xs) => .ok (.lst xs) (st.take base)
    | _ => .bad)
  | d => if d.gnd then .ok d (st.take base) else .bad
/-- .. a live list of its own stays so -/
def finL (base : Nat) (d : D) (st : Sto) : R D := match d with
  | .ref k => if k < base then .ok (.ref k) (st.take base) else (match st[k]? with
    | some (.lst xs) => .ok (.ref base) (st.take base ++ [.lst xs])
    | _ => .bad)
  | d => if d.gnd then .ok d (st.take base) else .bad
def fnS (fin : Nat → D → Sto → R D) (n slots : Nat) (b : Sx) : Fn := fun ds st => if ds.length = n then (match b (ds.map some ++ List.replicate (slots - n) none) st with
  | .ok (.nx _) st1 => fin st.length .non st1
  | .ok (.rt d) st1 => fin st.length d st1
  | .exc C fs xs _ st1 => .exc C fs xs (st1.take st.length)
  | _ => .bad) else .bad
/-! ### operations on values as they stand -/
def mulOk (i j : Int) : Bool := decide ((-(2 ^ 64) < i ∧ i < 2 ^ 64) ∨ (-(2 ^ 64) < j ∧ j < 2 ^ 64) ∨ i.natAbs.log2 + j.natAbs.log2 < 1000000)
def oAdd : D → D → Option D
  | .int i, .int j => some (.int (i + j))
  | .str x, .str y => if x.length + y.length ≤ 1000000 then some (.str (x ++ y)) else none
  | .tup xs, .tup ys => if xs.length + ys.length ≤ 1000000 then some (.tup (xs ++ ys)) else none
  | .lst xs, .lst ys => if xs.length + ys.length ≤ 1000000 then some (.lst (xs ++ ys)) else none
  | _, _ => none
def oSub : D → D → Option D
  | .int i, .int j => some (.int (i - j))
  | _, _ => none
def oMul : D → D → Option D
  | .int i, .int j => if mulOk i j then some (.int (i * j)) else none
  | .lst xs, .int k => if -1000000 ≤ k ∧ k ≤ 1000000 ∧ xs.length * k.toNat ≤ 1000000 then some (.lst (List.replicate k.toNat xs).flatten) else none
  | _, _ => none
def oDiv : D → D → Option D
  | .int i, .int j => if 0 < j ∧ j.natAbs.log2 < 9000 then some (.int (i / j)) else none
  | _, _ => none
def oMod : D → D → Option D
  | .int i, .int j => if 0 < j then some (.int (i % j)) else none
  | _, _ => none
def oPow : D → D → Option D
  | .int i, .int j => if 0 ≤ j ∧ j ≤ 1000000 ∧ i.natAbs < 2 ^ 64 then some (.int (i ^ j.toNat)) else none
  | _, _ => none
def oNeg : D → Option D
  | .int i => some (.int (-i))
  | _ => none
def oLt : D → D → Option D
  | .int i, .int j => some (.bl (decide (i < j)))
  | _, _ => none
def oLe : D → D → Option D
  | .int i, .int j => some (.bl (decide (i ≤ j)))
  | _, _ => none
def oGt : D → D → Option D
  | .int i, .int j => some (.bl (decide (j < i)))
  | _, _ => none
def oGe : D → D → Option D
  | .int i, .int j => some (.bl (decide (j ≤ i)))
  | _, _ => none
def oEq (x y : D) : Option D := if x.plain 60 = true ∧ y.plain 60 = true then some (.bl (x.eqv y)) else none
def oNe (x y : D) : Option D := if x.plain 60 = true ∧ y.plain 60 = true then some (.bl (!x.eqv y)) else none
def oIsN : D → D → Option D
  | x, .non => some (.bl (match x with | .non => true | _ => false))
  | _, _ => none
def oNotN : D → D → Option D
  | x, .non => some (.bl (match x with | .non => false | _ => true))
  | _, _ => none
def D.flat : D → Bool
  | .non => true
  | .bl _ => true
  | .int _ => true
  | .str _ => true
  | _ => false
def isInD (x y : D) : Option Bool := match y with
  | .tup ys => if x.plain 60 = true ∧ D.plains 59 ys = true then some (ys.any fun z => z.eqv x) else none
  | .lst ys => if x.plain 60 = true ∧ D.plains 59 ys = true then some (ys.any fun z => z.eqv x) else none
  | .str z => (match x with
    | .str w => (match w.cps.toList with
      | [c] => some (decide (c ∈ z.cps.toList))
      | _ => none)
    | _ => none)
  | _ => none
def oIn (x y : D) : Option D := (isInD x y).map D.bl
def oNotIn (x y : D) : Option D := (isInD x y).map fun b => .bl (!b)
def oIx : D → D → Option D
  | .tup xs, .int i => (ixD xs.length i).bind fun j => xs[j]?
  | .lst xs, .int i => (ixD xs.length i).bind fun j => xs[j]?
  | .str z, .int i => if z.length ≤ 1000000 then (ixD z.cps.toList.length i).bind fun j => (z.cps.toList[j]?).map fun c => .str ⟨#[c]⟩ else none
  | _, _ => none
def sIxD (n d : Nat) : Option Int → Nat
  | none => d
  | some v => if v < 0 then (v + (n : Int)).toNat else min v.toNat n
def cutD (xs : List D) (lo hi : Option Int) : List D := (xs.drop (sIxD xs.length 0 lo)).take (sIxD xs.length xs.length hi - sIxD xs.length 0 lo)
def oSl : D → Option Int → Option Int → Option D
  | .tup xs, lo, hi => some (.tup (cutD xs lo hi))
  | .lst xs, lo, hi => some (.lst (cutD xs lo hi))
  | .scr xs, lo, hi => some (.lst (cutD xs lo hi))
  | _, _, _ => none
def pNone : Env → Sto → R (Option Int) := fun _ st => .ok none st
def pSome (a : Ex) : Env → Sto → R (Option Int) := fun env st => (a env st).bnd fun x st1 => match x with
  | .int i => .ok (some i) st1
  | _ => .bad
def eSl (a : Ex) (lo hi : Env → Sto → R (Option Int)) : Ex := fun env st => (a env st).bnd fun x st1 => (lo env st1).bnd fun l st2 => (hi env st2).bnd fun h st3 => R.of (oSl (view st3 x) l h) st3
/-! calls of built-ins -/
def cLen : List D → Option D
  | [.tup xs] => some (.int xs.length)
  | [.lst xs] => some (.int xs.length)
  | [.scr xs] => some (.int xs.length)
  | [.str z] => if z.length ≤ 1000000 then some (.int z.length) else none
  | _ => none
def cAbs : List D → Option D
  | [.int i] => some (.int (if i < 0 then -i else i))
  | _ => none
def cInt : List D → Option D
  | [.int i] => some (.int i)
  | [.bl k] => some (.int (if k then 1 else 0))
  | _ => none
def cMin : List D → Option D
  | [.int i, .int j] => some (.int (if j < i then j else i))
  | _ => none
def cMax : List D → Option D
  | [.int i, .int j] => some (.int (if j > i then j else i))
  | _ => none
def cTuple : List D → Option D
  | [.tup xs] => some (.tup xs)
  | [.lst xs] => some (.tup xs)
  | [.scr xs] => some (.tup xs)
  | _ => none
def cList : List D → Option D
  | [.tup xs] => some (.lst xs)
  | [.lst xs] => some (.lst xs)
  | [.scr xs] => some (.lst xs)
  | _ => none
def D.int? : D → Option Int
  | .int i => some i
  | _ => none
def cSum : List D → Option D
  | [.lst xs] => (xs.mapM D.int?).map fun ns => .int ns.sum
  | [.tup xs] => (xs.mapM D.int?).map fun ns => .int ns.sum
  | _ => none
def insI (x : Int) : List Int → List Int
  | [] => [x]
  | y :: ys => if x ≤ y then x :: y :: ys else y :: insI x ys
def sortI : List Int → List Int
  | [] => []
  | x :: xs => insI x (sortI xs)
def cSorted : List D → Option D
  | [.lst xs] => (xs.mapM D.int?).bind fun ns => if ns.length ≤ 1000000 then some (.lst ((sortI ns).map D.int)) else none
  | _ => none
/-- a call of a built-in -/
def eC1 (f : List D → Option D) (as : Ax) : Ex := fun env st => (as env st).bnd fun xs st1 => R.of (f (xs.map (view st1))) st1
/-- list(range(a, b)), tuple(range(a, b)) -/
def rgD (a b : Int) : List D := (List.range (b - a).toNat).map fun i => .int (a + (i : Nat))
/-- what a for walks -/
def iLst (a : Ex) : Ax := fun env st => (a env st).bnd fun x st1 => match x with
  | .lst xs => .ok xs st1
  | .scr xs => .ok xs st1
  | _ => .bad
def iTpl (a : Ex) : Ax := fun env st => (a env st).bnd fun x st1 => match x with
  | .tup xs => .ok xs st1
  | _ => .bad
def iStr (a : Ex) : Ax := fun env st => (a env st).bnd fun x st1 => match x with
  | .str z => .ok (z.cps.toList.map fun c => D.str ⟨#[c]⟩) st1
  | _ => .bad
def iAny (a : Ex) : Ax := fun env st => (a env st).bnd fun x st1 => match x with
  | .lst xs => .ok xs st1
  | .scr xs => .ok xs st1
  | .tup xs => .ok xs st1
  | .str z => .ok (z.cps.toList.map fun c => D.str ⟨#[c]⟩) st1
  | _ => .bad
def iRng1 (as : Ax) : Ax := fun env st => (as env st).bnd fun xs st1 => match xs with
  | [.int j] => if -1000000 ≤ j ∧ j ≤ 1000000 then .ok (rgD 0 j) st1 else .bad
  | _ => .bad
def iRng2 (as : Ax) : Ax := fun env st => (as env st).bnd fun xs st1 => match xs with
  | [.int i, .int j] => if -1000000 ≤ i ∧ i ≤ 1000000 ∧ -1000000 ≤ j ∧ j ≤ 1000000 then .ok (rgD i j) st1 else .bad
  | _ => .bad
/-- range(i, j, k), k above 0 -/
def rg3N (i j k : Int) : Nat := if i < j then ((j - i - 1) / k + 1).toNat else 0
def rg3D (i j k : Int) : List D := (List.range (rg3N i j k)).map fun t => .int (i + (t : Nat) * k)
def iRng3 (as : Ax) : Ax := fun env st => (as env st).bnd fun xs st1 => match xs with
  | [.int i, .int j, .int k] => if 0 < k ∧ k ≤ 1000 ∧ -1000000 ≤ i ∧ i ≤ 1000000 ∧ -1000000 ≤ j ∧ j ≤ 1000000 then .ok (rg3D i j k) st1 else .bad
  | _ => .bad
def enumD : Nat → List D → List D
  | _, [] => []
  | i, d :: ds => .tup [.int i, d] :: enumD (i + 1) ds
def iEnumL (a : Ex) : Ax := fun env st => (a env st).bnd fun x st1 => match x with
  | .lst xs => .ok (enumD 0 xs) st1
  | _ => .bad
def iEnumU (a : Ex) : Ax := fun env st => (a env st).bnd fun x st1 => match x with
  | .tup xs => .ok (enumD 0 xs) st1
  | _ => .bad
def iEnum (a : Ex) : Ax := fun env st => (a env st).bnd fun x st1 => match x with
  | .lst xs => .ok (enumD 0 xs) st1
  | .tup xs => .ok (enumD 0 xs) st1
  | _ => .bad
/-! isinstance -/
def D.tyOf (P : Pg) : D → Option (String ⊕ String)
  | .non => some (.inl "NoneType")
  | .bl _ => some (.inl "bool")
  | .int _ => some (.inl "int")
  | .str _ => some (.inl "str")
  | .tup _ => some (.inl "tuple")
  | .lst _ => some (.inl "list")
  | .scr _ => some (.inl "list")
  | .obj C _ _ => if C ∈ P.own then some (.inr C) else none
  | _ => none
def ctF (t c : String ⊕ String) : List ((String ⊕ String) × (String ⊕ String) × Bool) → Option Bool
  | [] => none
  | (a, b, r) :: k => if a = t ∧ b = c then some r else ctF t c k
def isi1 (P : Pg) (t : String ⊕ String) : D → Option Bool
  | .ty n => ctF t (.inl n) P.ct
  | .cls C => ctF t (.inr C) P.ct
  | _ => none
def isiA (P : Pg) (t : String ⊕ String) : List D → Option Bool
  | [] => some false
  | c :: cs => (isi1 P t c).bind fun b => if b then some true else isiA P t cs
def isiC (P : Pg) (t : String ⊕ String) : D → Option Bool
  | .ty n => ctF t (.inl n) P.ct
  | .cls C => ctF t (.inr C) P.ct
  | .tup cs => if cs.all (fun c => (isi1 P t c).isSome) then isiA P t cs else none
  | _ => none
def cIsi (P : Pg) : List D → Option D
  | [x, c] => (x.tyOf P).bind fun t => (isiC P t c).map D.bl
  | _ => none
/-! fields -/
def fldD (f : String) : List String → List D → Option D
  | g :: fs, x :: xs => if g = f then some x else fldD f fs xs
  | _, _ => none
/-- o.f -/
def conD (C f : String) : List ((String × String) × Int) → Option D
  | [] => none
  | (k, i) :: r => if k = (C, f) then some (.int i) else conD C f r
/-- a member of a plain instance: a field, or a number of the class -/
def attrD (P : Pg) (C f : String) (fs : List String) (xs : List D) : Option D := if C ∈ P.own then (if (C, f) ∈ P.fld then fldD f fs xs else if f ∈ fs then none else conD C f P.con) else none
def eFld (P : Pg) (a : Ex) (f : String) : Ex := fun env st => (a env st).bnd fun x st1 => match x with
  | .obj C fs xs => R.of (attrD P C f fs xs) st1
  | .exn C fs xs => if C ∈ P.exc ∧ (C, f) ∈ P.fld then R.of (fldD f fs xs) st1 else .bad
  | .ref n => (match st1[n]? with
    | some (.ins C fs xs) => R.of (attrD P C f fs xs) st1
    | _ => .bad)
  | _ => .bad
/-- [e for g in src if c], built further -/
def eLcL (src : Ax) (g : Gx) (own : List Nat) (c : Tx) (e : Ex) : Ex := fun env st => (src env st).bnd fun ds st1 => (lcL g c e st1.length ds (wipeE env own) (st1 ++ [.lst []])).bnd fun _ st2 => .ok (.ref st1.length) (st2.take (st1.length + 1))
/-- xs + ys, a new list that is built further -/
def eAddL (a b : Ex) : Ex := fun env st => (a env st).bnd fun x st1 => (b env st1).bnd fun y st2 => match view st2 x, view st2 y with
  | .lst xs, .lst ys => if xs.length + ys.length ≤ 1000000 ∧ D.gnds xs = true ∧ D.gnds ys = true then .ok (.ref st2.length) (st2 ++ [.lst (xs ++ ys)]) else .bad
  | _, _ => .bad
/-- the places ix of xs -/
def perm {α : Type} (ix : List Nat) (xs : List α) : List α := ix.filterMap fun i => xs[i]?
def eBad : Ex := fun _ _ => .bad
def sBad : Sx := fun _ _ => .bad
end Cb

set_option Elab.async false
set_option linter.all false
set_option maxRecDepth 100000
set_option maxHeartbeats 4000000
/-! CbRel: the functional reading against the machine: what a value, a store, a state stands for. -/
namespace Cb
open PySem PySem.Spec PyProof.Rows L2
abbrev St := L2.St

abbrev gaC (K : PySem.W.Frag) (C : String) : Addr := He.ga K (Str.ofString C)
def fsV (ns : List String) (vs : List V) : List (Str × V) := (ns.map Str.ofString).zip vs
/-- a caught exception: its object, whatever its record holds -/
def XO (a : Addr) (cls : Value) (dd : Option Addr) : HO := .ext fun h => ∃ oe vs, h.get? a = some oe ∧ Zc cls dd oe ∧ oe.data = .fields vs
/-- its fields -/
def XF1 (G : Hp) (dd : Option Addr) (ns : List String) (vs : List V) : Prop :=
  ns.length = vs.length ∧ (ns = [] ∨ ∃ dx fs, dd = some dx ∧ G dx = some (.xd fs) ∧ ∀ (j : Nat) (f : String) (v : V), ns[j]? = some f → vs[j]? = some v → fs.lookup (Str.ofString f) = some v)

mutual
/-- the value v stands for the data d: n live objects, the i-th at m i; G what stands for good -/
inductive Rp (K : PySem.W.Frag) (m : Nat → Addr) (n : Nat) (G : Hp) : V → D → Prop
  | non : Rp K m n G .non .non
  | bl (b : Bool) : Rp K m n G (.bl b) (.bl b)
  | int (i : Int) : Rp K m n G (.int i) (.int i)
  | str (x : Str) : Rp K m n G (.str x) (.str x)
  | tup {a : Addr} {vs : List V} {ds : List D} : SqT K G a vs → RpL K m n G vs ds → Rp K m n G (.ref a) (.tup ds)
  | lst {a : Addr} {vs : List V} {ds : List D} : G a = some (.lst vs) → RpL K m n G vs ds → Rp K m n G (.ref a) (.lst ds)
  | scr {a : Addr} {vs : List V} {ds : List D} : SqL K G a vs → RpL K m n G vs ds → Rp K m n G (.ref a) (.scr ds)
  | obj {a dx : Addr} {C : String} {ns : List String} {vs : List V} {ds : List D} : G a = some (.ins (gaC K C) dx (fsV ns vs)) → ns.length = vs.length → RpL K m n G vs ds → Rp K m n G (.ref a) (.obj C ns ds)
  | exn {a : Addr} {dd : Option Addr} {C : String} {ns : List String} {vs : List V} {ds : List D} : G a = some (XO a (.ref (gaC K C)) dd) → XF1 G dd ns vs → RpL K m n G vs ds → Rp K m n G (.ref a) (.exn C ns ds)
  | ref {i : Nat} : i < n → Rp K m n G (.ref (m i)) (.ref i)
  | cls (C : String) : Rp K m n G (.ref (gaC K C)) (.cls C)
  | ty (s : String) : Rp K m n G (.ty s) (.ty s)
inductive RpL (K : PySem.W.Frag) (m : Nat → Addr) (n : Nat) (G : Hp) : List V → List D → Prop
  | nil : RpL K m n G [] []
  | cons {v : V} {vs : List V} {d : D} {ds : List D} : Rp K m n G v d → RpL K m n G vs ds → RpL K m n G (v :: vs) (d :: ds)
end

theorem same_rd {G G' : Hp} (s : Same G G') {a : Addr} {u : HO} (h : Rd G a u) : Rd G' a u := by
  rcases h with h | ⟨o, h⟩
  · exact .inl (s _ _ h)
  · exact .inr ⟨o, s _ _ h⟩
theorem same_t {K : PySem.W.Frag} {G G' : Hp} (s : Same G G') {a : Addr} {xs : List V} (h : SqT K G a xs) : SqT K G' a xs := by
  rcases h with h | h
  · exact .inl (same_rd s h)
  · exact .inr h
theorem same_l {K : PySem.W.Frag} {G G' : Hp} (s : Same G G') {a : Addr} {xs : List V} (h : SqL K G a xs) : SqL K G' a xs := by
  rcases h with h | h
  · exact .inl (same_rd s h)
  · exact .inr h
theorem XF1.mono {G G' : Hp} (s : Same G G') {dd : Option Addr} {ns : List String} {vs : List V} (h : XF1 G dd ns vs) : XF1 G' dd ns vs := by
  obtain ⟨e, h⟩ := h
  refine ⟨e, ?_⟩
  rcases h with h | ⟨dx, fs, h1, h2, h3⟩
  · exact .inl h
  · exact .inr ⟨dx, fs, h1, s _ _ h2, h3⟩

section
variable {K : PySem.W.Frag} {m m' : Nat → Addr} {n n' : Nat} {G G' : Hp}
mutual
theorem Rp.mono (s : Same G G') (hm : ∀ i, i < n → m' i = m i) (hn : n ≤ n') : ∀ (d : D) (v : V), Rp K m n G v d → Rp K m' n' G' v d
  | .non, _, h => by cases h; exact .non
  | .bl _, _, h => by cases h; exact .bl _
  | .int _, _, h => by cases h; exact .int _
  | .str _, _, h => by cases h; exact .str _
  | .tup ds, _, h => by cases h with | tup h1 h2 => exact .tup (same_t s h1) (RpL.mono s hm hn ds _ h2)
  | .lst ds, _, h => by cases h with | lst h1 h2 => exact .lst (s _ _ h1) (RpL.mono s hm hn ds _ h2)
  | .scr ds, _, h => by cases h with | scr h1 h2 => exact .scr (same_l s h1) (RpL.mono s hm hn ds _ h2)
  | .obj _ _ ds, _, h => by cases h with | obj h1 h2 h3 => exact .obj (s _ _ h1) h2 (RpL.mono s hm hn ds _ h3)
  | .exn _ _ ds, _, h => by cases h with | exn h1 h2 h3 => exact .exn (s _ _ h1) (h2.mono s) (RpL.mono s hm hn ds _ h3)
  | .ref i, _, h => by
    cases h with
    | ref h =>
      rw [← hm i h]
      exact .ref (Nat.lt_of_lt_of_le h hn)
  | .cls _, _, h => by cases h; exact .cls _
  | .ty _, _, h => by cases h; exact .ty _
theorem RpL.mono (s : Same G G') (hm : ∀ i, i < n → m' i = m i) (hn : n ≤ n') : ∀ (ds : List D) (vs : List V), RpL K m n G vs ds → RpL K m' n' G' vs ds
  | [], _, h => by cases h; exact .nil
  | d :: ds, _, h => by cases h with | cons h1 h2 => exact .cons (Rp.mono s hm hn d _ h1) (RpL.mono s hm hn ds _ h2)
end
mutual
/-- what names no live object stands without them -/
theorem Rp.gnd : ∀ (d : D) (v : V), d.gnd = true → Rp K m n G v d → Rp K m' 0 G v d
  | .non, _, _, h => by cases h; exact .non
  | .bl _, _, _, h => by cases h; exact .bl _
  | .int _, _, _, h => by cases h; exact .int _
  | .str _, _, _, h => by cases h; exact .str _
  | .tup ds, _, g, h => by cases h with | tup h1 h2 => exact .tup h1 (RpL.gnd ds _ g h2)
  | .lst ds, _, g, h => by cases h with | lst h1 h2 => exact .lst h1 (RpL.gnd ds _ g h2)
  | .scr ds, _, g, h => by cases h with | scr h1 h2 => exact .scr h1 (RpL.gnd ds _ g h2)
  | .obj _ _ ds, _, g, h => by cases h with | obj h1 h2 h3 => exact .obj h1 h2 (RpL.gnd ds _ g h3)
  | .exn _ _ ds, _, g, h => by cases h with | exn h1 h2 h3 => exact .exn h1 h2 (RpL.gnd ds _ g h3)
  | .ref _, _, g, _ => by cases g
  | .cls _, _, _, h => by cases h; exact .cls _
  | .ty _, _, _, h => by cases h; exact .ty _
theorem RpL.gnd : ∀ (ds : List D) (vs : List V), D.gnds ds = true → RpL K m n G vs ds → RpL K m' 0 G vs ds
  | [], _, _, h => by cases h; exact .nil
  | d :: ds, _, g, h => by
    obtain ⟨g1, g2⟩ := Bool.and_eq_true_iff.mp (show (d.gnd && D.gnds ds) = true from g)
    cases h with | cons h1 h2 => exact .cons (Rp.gnd d _ g1 h1) (RpL.gnd ds _ g2 h2)
end
theorem RpL.length : ∀ {ds : List D} {vs : List V}, RpL K m n G vs ds → vs.length = ds.length
  | [], _, h => by cases h; rfl
  | _ :: _, _, h => by cases h with | cons _ h2 => rw [List.length_cons, List.length_cons, RpL.length h2]
theorem RpL.get : ∀ {ds : List D} {vs : List V} {i : Nat} {d : D}, RpL K m n G vs ds → ds[i]? = some d → ∃ v, vs[i]? = some v ∧ Rp K m n G v d
  | [], _, _, _, _, e => by simp at e
  | x :: _, _, 0, d, h, e => by
    cases h with
    | cons h1 _ =>
      have e' : x = d := by simpa using e
      exact ⟨_, rfl, e' ▸ h1⟩
  | _ :: _, _, i + 1, d, h, e => by
    cases h with
    | cons _ h2 =>
      obtain ⟨v, h3, h4⟩ := RpL.get (i := i) h2 (by simpa using e)
      exact ⟨v, by simpa using h3, h4⟩
theorem RpL.at : ∀ {ds : List D} {vs : List V} {i : Nat} {v : V}, RpL K m n G vs ds → vs[i]? = some v → ∃ d, ds[i]? = some d ∧ Rp K m n G v d
  | [], _, _, _, h, e => by cases h; simp at e
  | x :: _, _, 0, v, h, e => by
    cases h with
    | @cons y _ _ _ h1 _ =>
      have e' : y = v := by simpa using e
      exact ⟨_, rfl, e' ▸ h1⟩
  | _ :: _, _, i + 1, v, h, e => by
    cases h with
    | cons _ h2 =>
      obtain ⟨d, h3, h4⟩ := RpL.at (i := i) h2 (by simpa using e)
      exact ⟨d, by simpa using h3, h4⟩
theorem RpL.app : ∀ {ds : List D} {vs : List V} {es : List D} {ws : List V}, RpL K m n G vs ds → RpL K m n G ws es → RpL K m n G (vs ++ ws) (ds ++ es)
  | [], _, _, _, h, k => by cases h; exact k
  | _ :: _, _, _, _, h, k => by cases h with | cons h1 h2 => exact .cons h1 (RpL.app h2 k)
theorem RpL.one {v : V} {d : D} (h : Rp K m n G v d) : RpL K m n G [v] [d] := .cons h .nil
theorem RpL.takeR : ∀ {ds : List D} {vs : List V} (k : Nat), RpL K m n G vs ds → RpL K m n G (vs.take k) (ds.take k)
  | _, _, 0, _ => .nil
  | [], _, _ + 1, h => by cases h; exact .nil
  | _ :: _, _, k + 1, h => by cases h with | cons h1 h2 => exact .cons h1 (RpL.takeR k h2)
theorem RpL.dropR : ∀ {ds : List D} {vs : List V} (k : Nat), RpL K m n G vs ds → RpL K m n G (vs.drop k) (ds.drop k)
  | _, _, 0, h => h
  | [], _, _ + 1, h => by cases h; exact .nil
  | _ :: _, _, k + 1, h => by cases h with | cons _ h2 => exact RpL.dropR k h2
theorem RpL.setR : ∀ {ds : List D} {vs : List V} {v : V} {d : D} (k : Nat), RpL K m n G vs ds → Rp K m n G v d → RpL K m n G (vs.set k v) (ds.set k d)
  | [], _, _, _, _, h, _ => by cases h; exact .nil
  | _ :: _, _, _, _, 0, h, r => by cases h with | cons _ h2 => exact .cons r h2
  | _ :: _, _, _, _, k + 1, h, r => by cases h with | cons h1 h2 => exact .cons h1 (RpL.setR k h2 r)
end

/-! ### the store, the state -/
def SO.live : SO → Bool
  | .dead => false
  | _ => true
def SOk (K : PySem.W.Frag) (G H : Hp) (a : Addr) : SO → Prop
  | .lst xs => G a = none ∧ ∃ vs, H a = some (.lst vs) ∧ RpL K (fun _ => 0) 0 G vs xs
  | .ins C ns xs => G a = none ∧ ∃ dx vs, H a = some (.ins (gaC K C) dx (fsV ns vs)) ∧ ns.length = vs.length ∧ RpL K (fun _ => 0) 0 G vs xs
  | .dct _ => False
  | .dead => True
structure SR (K : PySem.W.Frag) (G : Hp) (m : Nat → Addr) (st : Sto) (H : Hp) : Prop where
  ex : Same G H
  at_ : ∀ n o, st[n]? = some o → SOk K G H (m n) o
  inj : ∀ i j o p, st[i]? = some o → st[j]? = some p → o.live = true → p.live = true → m i = m j → i = j
/-- from state to state: what stands for good, the live objects' places -/
structure Tr (G : Hp) (m : Nat → Addr) (n : Nat) (G' : Hp) (m' : Nat → Addr) (n' : Nat) : Prop where
  ex : Same G G'
  mm : ∀ i, i < n → m' i = m i
  le : n ≤ n'
theorem Tr.refl {G : Hp} {m : Nat → Addr} {n : Nat} : Tr G m n G m n := ⟨Same.refl _, fun _ _ => rfl, Nat.le_refl _⟩
theorem Tr.trans {G G1 G2 : Hp} {m m1 m2 : Nat → Addr} {n n1 n2 : Nat} (a : Tr G m n G1 m1 n1) (b : Tr G1 m1 n1 G2 m2 n2) : Tr G m n G2 m2 n2 :=
  ⟨a.ex.trans b.ex, fun i h => (b.mm i (Nat.lt_of_lt_of_le h a.le)).trans (a.mm i h), Nat.le_trans a.le b.le⟩
theorem Rp.tr {K : PySem.W.Frag} {G G' : Hp} {m m' : Nat → Addr} {n n' : Nat} {d : D} {v : V} (t : Tr G m n G' m' n') (h : Rp K m n G v d) : Rp K m' n' G' v d := h.mono t.ex t.mm t.le d v
theorem RpL.tr {K : PySem.W.Frag} {G G' : Hp} {m m' : Nat → Addr} {n n' : Nat} {d : List D} {v : List V} (t : Tr G m n G' m' n') (h : RpL K m n G v d) : RpL K m' n' G' v d := h.mono t.ex t.mm t.le d v
theorem RpL.up {K : PySem.W.Frag} {G G' : Hp} {m m' : Nat → Addr} {n : Nat} {d : List D} {v : List V} (s : Same G G') (h : RpL K m 0 G v d) : RpL K m' n G' v d := h.mono s (fun _ h => absurd h (Nat.not_lt_zero _)) (Nat.zero_le _) d v
theorem Rp.up {K : PySem.W.Frag} {G G' : Hp} {m m' : Nat → Addr} {n : Nat} {d : D} {v : V} (s : Same G G') (h : Rp K m 0 G v d) : Rp K m' n G' v d := h.mono s (fun _ h => absurd h (Nat.not_lt_zero _)) (Nat.zero_le _) d v
theorem SOk.mono {K : PySem.W.Frag} {G G' H H' : Hp} {a : Addr} {o : SO} (s : Same G G') (hn : o.live = true → G a = none → G' a = none) (hh : o.live = true → H' a = H a) (h : SOk K G H a o) : SOk K G' H' a o := by
  cases o with
  | lst xs =>
    obtain ⟨g, vs, e, r⟩ := h
    exact ⟨hn rfl g, vs, (hh rfl).trans e, r.up s⟩
  | ins C ns xs =>
    obtain ⟨g, dx, vs, e, l, r⟩ := h
    exact ⟨hn rfl g, dx, vs, (hh rfl).trans e, l, r.up s⟩
  | dct kvs => exact h.elim
  | dead => trivial
theorem SOk.there {K : PySem.W.Frag} {G H : Hp} {a : Addr} {o : SO} (h : SOk K G H a o) (l : o.live = true) : G a = none ∧ ∃ u, H a = some u := by
  cases o with
  | lst xs =>
    obtain ⟨g, vs, e, _⟩ := h
    exact ⟨g, _, e⟩
  | ins C ns xs =>
    obtain ⟨g, dx, vs, e, _⟩ := h
    exact ⟨g, _, e⟩
  | dct kvs => exact h.elim
  | dead => cases l
theorem same_new {H : Hp} {p : Addr} {o : HO} (h : H p = none) : Same H (upd H p o) := fun a u e => by
  rw [upd_ne (ne_of_none e h)]
  exact e

section
variable {K : PySem.W.Frag} {m : Nat → Addr} {st : Sto} {G H : Hp}
theorem SR.free (S : SR K G m st H) {p : Addr} (h : H p = none) : G p = none := S.ex.free h
theorem SR.take (S : SR K G m st H) (k : Nat) : SR K G m (st.take k) H := by
  have key : ∀ n o, (st.take k)[n]? = some o → st[n]? = some o := fun n o e => by
    rw [List.getElem?_take] at e
    split at e
    · exact e
    · cases e
  exact ⟨S.ex, fun n o e => S.at_ n o (key n o e), fun i j o p e1 e2 => S.inj i j o p (key i o e1) (key j p e2)⟩
/-- a new object stands for good -/
theorem SR.new (S : SR K G m st H) {p : Addr} {o : HO} (h : H p = none) : SR K (upd G p o) m st (upd H p o) := by
  refine ⟨fun a u e => ?_, fun n x e => ?_, S.inj⟩
  · by_cases hp : a = p
    · subst hp
      rw [upd_same] at e
      rw [upd_same, e]
    · rw [upd_ne hp] at e
      rw [upd_ne hp]
      exact S.ex a u e
  · have k := S.at_ n x e
    have ne : x.live = true → m n ≠ p := fun l z => by
      obtain ⟨_, u, hu⟩ := k.there l
      rw [z, h] at hu
      cases hu
    exact k.mono (same_new (S.free h)) (fun l g => by rw [upd_ne (ne l)]; exact g) fun l => upd_ne (ne l)
theorem SR.trNew (S : SR K G m st H) {p : Addr} {o : HO} (h : H p = none) : Tr G m st.length (upd G p o) m st.length := ⟨same_new (S.free h), fun _ _ => rfl, Nat.le_refl _⟩
/-- a new live object at p -/
theorem SR.push (S : SR K G m st H) {p : Addr} {u : HO} {o : SO} (h : H p = none) (hl : o.live = true) (ok : SOk K G (upd H p u) p o) :
    SR K G (fun i => if i = st.length then p else m i) (st ++ [o]) (upd H p u) := by
  have at1 : ∀ n x, (st ++ [o])[n]? = some x → (n < st.length ∧ st[n]? = some x) ∨ (n = st.length ∧ x = o) := fun n x e => by
    by_cases hn : n < st.length
    · rw [List.getElem?_append_left hn] at e
      exact .inl ⟨hn, e⟩
    · rw [List.getElem?_append_right (by omega)] at e
      have hz : n - st.length = 0 := by
        by_cases z : n - st.length = 0
        · exact z
        · rw [List.getElem?_eq_none (by simp; omega)] at e
          cases e
      rw [hz] at e
      exact .inr ⟨by omega, by simpa using e.symm⟩
  have ne : ∀ n x, st[n]? = some x → x.live = true → m n ≠ p := fun n x e l z => by
    obtain ⟨_, u, hu⟩ := (S.at_ n x e).there l
    rw [z, h] at hu
    cases hu
  refine ⟨fun a u e => ?_, fun n x e => ?_, fun i j x y e1 e2 l1 l2 eq => ?_⟩
  · rw [upd_ne (fun z => by rw [z, S.free h] at e; cases e)]
    exact S.ex a u e
  · rcases at1 n x e with ⟨hn, e⟩ | ⟨rfl, rfl⟩
    · simp only [if_neg (Nat.ne_of_lt hn)]
      exact (S.at_ n x e).mono (Same.refl _) (fun _ g => g) fun l => upd_ne (ne n x e l)
    · simp only [if_true]
      exact ok
  · rcases at1 i x e1 with ⟨hi, f1⟩ | ⟨rfl, rfl⟩ <;> rcases at1 j y e2 with ⟨hj, f2⟩ | ⟨rfl, rfl⟩
    · simp only [if_neg (Nat.ne_of_lt hi), if_neg (Nat.ne_of_lt hj)] at eq
      exact S.inj i j x y f1 f2 l1 l2 eq
    · simp only [if_neg (Nat.ne_of_lt hi), if_true] at eq
      exact absurd eq (ne i x f1 l1)
    · simp only [if_neg (Nat.ne_of_lt hj), if_true] at eq
      exact absurd eq.symm (ne j y f2 l2)
    · rfl
theorem SR.trPush (S : SR K G m st H) {p : Addr} {o : SO} : Tr G m st.length G (fun i => if i = st.length then p else m i) (st ++ [o]).length :=
  ⟨Same.refl _, fun i h => by simp only [if_neg (Nat.ne_of_lt h)], by simp⟩
/-- the live object i changes -/
theorem SR.set (S : SR K G m st H) {i : Nat} {o o' : SO} {u : HO} (e : st[i]? = some o) (l : o.live = true) (ok : SOk K G (upd H (m i) u) (m i) o') :
    SR K G m (st.set i o') (upd H (m i) u) := by
  have hi : i < st.length := (List.getElem?_eq_some_iff.mp e).1
  obtain ⟨gi, _⟩ := (S.at_ i o e).there l
  have at1 : ∀ n x, (st.set i o')[n]? = some x → (n ≠ i ∧ st[n]? = some x) ∨ (n = i ∧ x = o') := fun n x q => by
    by_cases hn : n = i
    · subst hn
      rw [List.getElem?_set_self hi] at q
      exact .inr ⟨rfl, by simpa using q.symm⟩
    · rw [List.getElem?_set_ne (Ne.symm hn)] at q
      exact .inl ⟨hn, q⟩
  refine ⟨fun a v q => ?_, fun n x q => ?_, fun j k x y e1 e2 l1 l2 eq => ?_⟩
  · rw [upd_ne (fun z => by rw [z, gi] at q; cases q)]
    exact S.ex a v q
  · rcases at1 n x q with ⟨hn, q⟩ | ⟨rfl, rfl⟩
    · exact (S.at_ n x q).mono (Same.refl _) (fun _ g => g) fun lx => upd_ne fun z => hn (S.inj n i x o q e lx l z)
    · exact ok
  · rcases at1 j x e1 with ⟨hj, f1⟩ | ⟨rfl, rfl⟩ <;> rcases at1 k y e2 with ⟨hk, f2⟩ | ⟨rfl, rfl⟩
    · exact S.inj j k x y f1 f2 l1 l2 eq
    · exact S.inj j _ x o f1 e l1 l eq
    · exact (S.inj k _ y o f2 e l2 l eq.symm).symm
    · rfl
theorem SR.trSet (_ : SR K G m st H) {i : Nat} {o' : SO} : Tr G m st.length G m (st.set i o').length := ⟨Same.refl _, fun _ _ => rfl, by rw [List.length_set]; exact Nat.le_refl _⟩
/-- the live list i is built no further -/
theorem SR.frz (S : SR K G m st H) {i : Nat} {xs : List D} (e : st[i]? = some (.lst xs)) :
    ∃ G', Tr G m st.length G' m (st.set i .dead).length ∧ SR K G' m (st.set i .dead) H ∧ ∀ n, Rp K m n G' (.ref (m i)) (.lst xs) := by
  have hi : i < st.length := (List.getElem?_eq_some_iff.mp e).1
  obtain ⟨g, vs, hv, r⟩ := S.at_ i _ e
  refine ⟨upd G (m i) (.lst vs), ⟨same_new g, fun _ _ => rfl, by rw [List.length_set]; exact Nat.le_refl _⟩, ⟨fun a u q => ?_, fun n x q => ?_, fun j k x y e1 e2 l1 l2 eq => ?_⟩, fun n => .lst upd_same (r.up (same_new g))⟩
  · by_cases ha : a = m i
    · subst ha
      rw [upd_same] at q
      rw [hv, q]
    · rw [upd_ne ha] at q
      exact S.ex a u q
  · by_cases hn : n = i
    · subst hn
      rw [List.getElem?_set_self hi] at q
      cases q
      trivial
    · rw [List.getElem?_set_ne (Ne.symm hn)] at q
      exact (S.at_ n x q).mono (same_new g) (fun lx gx => by rw [upd_ne fun z => hn (S.inj n i x _ q e lx rfl z)]; exact gx) fun _ => rfl
  · have key : ∀ (j : Nat) (x : SO), (st.set i SO.dead)[j]? = some x → x.live = true → st[j]? = some x := fun j x q l => by
      by_cases hj : j = i
      · subst hj
        rw [List.getElem?_set_self hi] at q
        cases q
        cases l
      · rw [List.getElem?_set_ne (Ne.symm hj)] at q
        exact q
    exact S.inj j k x y (key j x e1 l1) (key k y e2 l2) l1 l2 eq
/-- a live instance stands for good -/
theorem SR.frzI (S : SR K G m st H) {i : Nat} {C : String} {fs : List String} {xs : List D} (e : st[i]? = some (.ins C fs xs)) :
    ∃ G', Tr G m st.length G' m (st.set i .dead).length ∧ SR K G' m (st.set i .dead) H ∧ ∀ n, Rp K m n G' (.ref (m i)) (.obj C fs xs) := by
  have hi : i < st.length := (List.getElem?_eq_some_iff.mp e).1
  obtain ⟨g, dx, vs, hv, hl, r⟩ := S.at_ i _ e
  refine ⟨upd G (m i) (.ins (gaC K C) dx (fsV fs vs)), ⟨same_new g, fun _ _ => rfl, by rw [List.length_set]; exact Nat.le_refl _⟩, ⟨fun a u q => ?_, fun n x q => ?_, fun j k x y e1 e2 l1 l2 eq => ?_⟩, fun n => .obj upd_same hl (r.up (same_new g))⟩
  · by_cases ha : a = m i
    · subst ha
      rw [upd_same] at q
      rw [hv, q]
    · rw [upd_ne ha] at q
      exact S.ex a u q
  · by_cases hn : n = i
    · subst hn
      rw [List.getElem?_set_self hi] at q
      cases q
      trivial
    · rw [List.getElem?_set_ne (Ne.symm hn)] at q
      exact (S.at_ n x q).mono (same_new g) (fun lx gx => by rw [upd_ne fun z => hn (S.inj n i x _ q e lx rfl z)]; exact gx) fun _ => rfl
  · have key : ∀ (j : Nat) (x : SO), (st.set i SO.dead)[j]? = some x → x.live = true → st[j]? = some x := fun j x q l => by
      by_cases hj : j = i
      · subst hj
        rw [List.getElem?_set_self hi] at q
        cases q
        cases l
      · rw [List.getElem?_set_ne (Ne.symm hj)] at q
        exact q
    exact S.inj j k x y (key j x e1 l1) (key k y e2 l2) l1 l2 eq
/-- what a value shows as it stands: a live list shows its items -/
theorem view_lst (S : SR K G m st H) {v : V} {d : D} {xs : List D} (r : Rp K m st.length G v d) (e : view st d = .lst xs) : ∃ a vs, v = .ref a ∧ H a = some (.lst vs) ∧ RpL K m st.length G vs xs := by
  cases d with
  | lst ds =>
    cases r with
    | lst h1 h2 =>
      obtain rfl : ds = xs := by simpa [view] using e
      exact ⟨_, _, rfl, S.ex _ _ h1, h2⟩
  | ref n =>
    cases r with
    | ref hn =>
      simp only [view] at e
      split at e
      · rename_i ys q
        obtain rfl : ys = xs := by simpa using e
        obtain ⟨_, vs, hv, rv⟩ := S.at_ n _ q
        exact ⟨_, vs, rfl, hv, rv.up (Same.refl _)⟩
      · cases e
  | _ => simp [view] at e
theorem view_same {d : D} (h : ∀ n, d ≠ .ref n) : view st d = d := by
  cases d <;> first | rfl | exact absurd rfl (h _)
/-- .. anything else stands itself -/
theorem view_else {d e : D} (h : view st d = e) (hl : ∀ xs, e ≠ .lst xs) : d = e := by
  cases d with
  | ref n =>
    simp only [view] at h
    split at h
    · exact absurd h.symm (hl _)
    · exact h
  | _ => exact h
end
end Cb

set_option Elab.async false
set_option linter.all false
set_option maxRecDepth 100000
set_option maxHeartbeats 4000000
/-! CbEx: expressions: what the functional reading says is what the machine does. -/
namespace Cb
open PySem PySem.Spec PyProof.Rows L2

def ER (K : PySem.W.Frag) (m : Nat → Addr) (n : Nat) (G : Hp) (σ : St) (env : Env) : Prop :=
  env.length = σ.length ∧ ∀ (i : Nat) (d : D), env[i]? = some (some d) → ∃ v, σ[i]? = some (some v) ∧ Rp K m n G v d
theorem ER.tr {K : PySem.W.Frag} {G G' : Hp} {m m' : Nat → Addr} {n n' : Nat} {σ : St} {env : Env} (t : Tr G m n G' m' n') (h : ER K m n G σ env) : ER K m' n' G' σ env :=
  ⟨h.1, fun i d e => let ⟨v, h1, h2⟩ := h.2 i d e; ⟨v, h1, h2.tr t⟩⟩
theorem ER.set {K : PySem.W.Frag} {m : Nat → Addr} {n : Nat} {G : Hp} {σ : St} {env : Env} {v : V} {d : D} (i : Nat) (h : ER K m n G σ env) (r : Rp K m n G v d) : ER K m n G (σ.set i (some v)) (env.set i (some d)) := by
  refine ⟨by rw [List.length_set, List.length_set]; exact h.1, fun j e q => ?_⟩
  by_cases hj : j = i
  · subst hj
    by_cases hl : j < env.length
    · rw [List.getElem?_set_self hl] at q
      have q' : d = e := by simpa using q
      subst q'
      rw [List.getElem?_set_self (by rw [← h.1]; exact hl)]
      exact ⟨v, rfl, r⟩
    · rw [List.getElem?_eq_none (by simpa using hl)] at q
      cases q
  · rw [List.getElem?_set_ne (Ne.symm hj)] at q
    rw [List.getElem?_set_ne (Ne.symm hj)]
    exact h.2 j e q
theorem ER.setN {K : PySem.W.Frag} {m : Nat → Addr} {n : Nat} {G : Hp} {σ : St} {env : Env} (i : Nat) {o : Option V} (h : ER K m n G σ env) : ER K m n G (σ.set i o) (env.set i none) := by
  refine ⟨by rw [List.length_set, List.length_set]; exact h.1, fun j e q => ?_⟩
  by_cases hj : j = i
  · subst hj
    by_cases hl : j < env.length
    · rw [List.getElem?_set_self hl] at q
      cases q
    · rw [List.getElem?_eq_none (by simpa using hl)] at q
      cases q
  · rw [List.getElem?_set_ne (Ne.symm hj)] at q
    rw [List.getElem?_set_ne (Ne.symm hj)]
    exact h.2 j e q

/-- where an answer leads -/
def Wp {α : Type} (K : PySem.W.Frag) (G : Hp) (m : Nat → Addr) (n : Nat) (r : R α) (P : α → Sto → Hp → (Nat → Addr) → Hp → Prop) (E : XK) : Prop := match r with
  | .ok a st' => ∀ G' m' H', Tr G m n G' m' st'.length → SR K G' m' st' H' → P a st' G' m' H'
  | .exc C fs xs st' => ∀ dd vs G' m' H', Tr G m n G' m' st'.length → SR K G' m' st' H' → XF1 G' dd fs vs → RpL K (fun _ => 0) 0 G' vs xs → E (.ref (gaC K C)) dd H'
  | .bad => False
section
variable {α β : Type} {K : PySem.W.Frag} {G G' : Hp} {m m' : Nat → Addr} {n n' : Nat} {r : R α} {P P' : α → Sto → Hp → (Nat → Addr) → Hp → Prop} {E : XK}
theorem Wp.from (t : Tr G m n G' m' n') (h : Wp K G m n r P E) : Wp K G' m' n' r P E := by
  cases r with
  | ok a st => exact fun G2 m2 H2 t2 S => h G2 m2 H2 (t.trans t2) S
  | exc C fs xs st => exact fun dd vs G2 m2 H2 t2 S => h dd vs G2 m2 H2 (t.trans t2) S
  | bad => exact h
theorem Wp.bnd {k : α → Sto → R β} {P : β → Sto → Hp → (Nat → Addr) → Hp → Prop} (h : Wp K G m n (r.bnd k) P E) : Wp K G m n r (fun a st' G' m' _ => Wp K G' m' st'.length (k a st') P E) E := by
  cases r with
  | ok a st => exact fun G2 m2 H2 t2 S => Wp.from t2 h
  | exc C fs xs st => exact h
  | bad => exact h
theorem Wp.imp (h : Wp K G m n r P E) (i : ∀ a st' G' m' H', Tr G m n G' m' st'.length → SR K G' m' st' H' → P a st' G' m' H' → P' a st' G' m' H') : Wp K G m n r P' E := by
  cases r with
  | ok a st => exact fun G2 m2 H2 t2 S => i _ _ _ _ _ t2 S (h G2 m2 H2 t2 S)
  | exc C fs xs st => exact h
  | bad => exact h
end

/-! ### readings -/
def tE (K : PySem.W.Frag) (W : WX) (f : Ex) : TE := fun σ H Q => ∃ env G m st, ER K m st.length G σ env ∧ SR K G m st H ∧
  Wp K G m st.length (f env st) (fun d st' G' m' H' => ∀ v, Rp K m' st'.length G' v d → Q v H') fun c dd H' => W c dd σ H'
def tT (K : PySem.W.Frag) (W : WX) (f : Tx) : TT := fun σ H Q => ∃ env G m st, ER K m st.length G σ env ∧ SR K G m st H ∧
  Wp K G m st.length (f env st) (fun b _ _ _ H' => Q b H') fun c dd H' => W c dd σ H'
def tA (K : PySem.W.Frag) (W : WX) (f : Ax) : TA := fun σ H Q => ∃ env G m st, ER K m st.length G σ env ∧ SR K G m st H ∧
  Wp K G m st.length (f env st) (fun ds st' G' m' H' => ∀ vs, RpL K m' st'.length G' vs ds → Q vs H') fun c dd H' => W c dd σ H'
abbrev EI (X : Cx) (W : WX) (e : Expr) (f : Ex) : Prop := PE X e (tE X.K W f)
abbrev TI' (X : Cx) (W : WX) (e : Expr) (f : Tx) : Prop := PT X e (tT X.K W f)
abbrev TW (X : Cx) (W : WX) (e : Expr) (f : Tx) : Prop := PW X e (tT X.K W f)
abbrev AI (X : Cx) (W : WX) (es : List Expr) (f : Ax) : Prop := PA X es (tA X.K W f)
theorem peI {X : Cx} {e : Expr} {t t' : TE} (h : PE X e t) (i : ∀ σ H Q, t' σ H Q → t σ H Q) : PE X e t' := ⟨fun pins s σ H Q I q => h.run pins s σ H Q I (i σ H Q q)⟩
theorem ptI {X : Cx} {e : Expr} {t t' : TT} (h : PT X e t) (i : ∀ σ H Q, t' σ H Q → t σ H Q) : PT X e t' := ⟨fun pins s σ H Q I q => h.run pins s σ H Q I (i σ H Q q)⟩
theorem pwI {X : Cx} {e : Expr} {t t' : TT} (h : PW X e t) (i : ∀ σ H Q, t' σ H Q → t σ H Q) : PW X e t' := ⟨fun wh pins s σ H Q I q => h.run wh pins s σ H Q I (i σ H Q q)⟩
theorem paI {X : Cx} {e : List Expr} {t t' : TA} (h : PA X e t) (i : ∀ σ H Q, t' σ H Q → t σ H Q) : PA X e t' := ⟨fun pos pins s σ H Q I q => h.run pos pins s σ H Q I (i σ H Q q)⟩

section
variable {X : Cx} {W : WX} {a b c e : Expr} {es : List Expr} {fa fb fc : Ex} {pos : Pos}
/-- an answer that is there, the state as it is -/
theorem Wp.now {α : Type} {K : PySem.W.Frag} {G H : Hp} {m : Nat → Addr} {st : Sto} {x : α} {P : α → Sto → Hp → (Nat → Addr) → Hp → Prop} {E : XK} (h : Wp K G m st.length (.ok x st) P E) (S : SR K G m st H) : P x st G m H := h G m H Tr.refl S
theorem ei_var (i : Nat) {x : Str} (hN : X.N[i]? = some x := by rfl) (hv : Vis X.env.scope x := by first | exact Or.inl rfl | exact Or.inr (Or.inl rfl) | exact Or.inr (Or.inr rfl)) (hd : (x == ("__debug__" : Str)) = false := by decide) (hcd : (x == ("__classdict__" : Str)) = false := by decide) :
    EI X W (.Name x pos) (eVar i) := by
  refine peI (pe_var hN hv hd hcd) fun σ H Q ⟨env, G, m, st, er, S, w⟩ => ?_
  unfold eVar at w
  split at w
  · rename_i d q
    obtain ⟨v, e1, r⟩ := er.2 i d q
    exact ⟨v, e1, w.now S v r⟩
  · exact w.elim
theorem ei_of_c {v : V} {d : D} (h : PE X e (L2.tC v)) (r : ∀ m n G, Rp X.K m n G v d) : EI X W e (eC d) :=
  peI h fun σ H Q ⟨env, G, m, st, er, S, w⟩ => (show Wp X.K G m st.length (.ok d st) _ _ from w).now S v (r _ _ _)
theorem ei_int {i : Int} {j : Nat} : EI X W (.Constant (.int i) j pos) (eC (.int i)) := ei_of_c pe_int fun _ _ _ => .int _
theorem ei_bl {b : Bool} {j : Nat} : EI X W (.Constant (.bool b) j pos) (eC (.bl b)) := ei_of_c pe_bl fun _ _ _ => .bl _
theorem ei_non {j : Nat} : EI X W (.Constant .none j pos) (eC .non) := ei_of_c pe_non fun _ _ _ => .non
theorem ei_str {x : Str} {j : Nat} : EI X W (.Constant (.str x) j pos) (eC (.str x)) := ei_of_c pe_str fun _ _ _ => .str _
/-- a module's constant -/
theorem ei_gint {x : Str} {i : Int} (hg : Gl X x) (hm : ∃ t, X.mg x = some (.int i t)) (hd : (x == ("__debug__" : Str)) = false := by decide) : EI X W (.Name x pos) (eC (.int i)) := by
  obtain ⟨t, hm⟩ := hm
  exact ei_of_c (pe_glob (v := .int i) hg hm ⟨t, rfl⟩ hd) fun _ _ _ => .int _
theorem ei_gstr {x z : Str} (hg : Gl X x) (hm : ∃ t, X.mg x = some (.str z t)) (hd : (x == ("__debug__" : Str)) = false := by decide) : EI X W (.Name x pos) (eC (.str z)) := by
  obtain ⟨t, hm⟩ := hm
  exact ei_of_c (pe_glob (v := .str z) hg hm ⟨t, rfl⟩ hd) fun _ _ _ => .str _
/-- an own class as a value -/
theorem ei_cls {x : Str} (C : String) (hg : Gl X x) (hm : X.mg x = some (.ref (gaC X.K C))) (hd : (x == ("__debug__" : Str)) = false := by decide) : EI X W (.Name x pos) (eC (.cls C)) :=
  ei_of_c (pe_glob (v := .ref (gaC X.K C)) hg hm rfl hd) fun _ _ _ => .cls _
/-- a built-in type as a value -/
theorem ei_ty {x : Str} (T : String) (hg : Gl X x) (hm : X.mg x = none) (hv : bootBuiltins x = some (.type T)) (hn : x ≠ "__name__" := by decide) (hd : (x == ("__debug__" : Str)) = false := by decide) : EI X W (.Name x pos) (eC (.ty T)) :=
  ei_of_c (pe_bltn (v := .ty T) hg hm hv rfl hn hd) fun _ _ _ => .ty _

/-- what an operation on values asks is had from the data's answer -/
def OpSem (K : PySem.W.Frag) (f : D → D → Option D) (r : R2) : Prop := ∀ {G : Hp} {m : Nat → Addr} {st : Sto} {H : Hp} {v u : V} {x y z : D}, SR K G m st H → Rp K m st.length G v x → Rp K m st.length G u y → f (view st x) (view st y) = some z →
  ∀ Q : VK, (∀ w G' H', Tr G m st.length G' m st.length → SR K G' m st H' → Rp K m st.length G' w z → Q w H') → r v u H Q
def UnSem (K : PySem.W.Frag) (f : D → Option D) (r : V → Hp → VK → Prop) : Prop := ∀ {G : Hp} {m : Nat → Addr} {st : Sto} {H : Hp} {v : V} {x z : D}, SR K G m st H → Rp K m st.length G v x → f (view st x) = some z →
  ∀ Q : VK, (∀ w G' H', Tr G m st.length G' m st.length → SR K G' m st H' → Rp K m st.length G' w z → Q w H') → r v H Q
def ClSem (K : PySem.W.Frag) (f : List D → Option D) (r : List V → Hp → VK → Prop) : Prop := ∀ {G : Hp} {m : Nat → Addr} {st : Sto} {H : Hp} {vs : List V} {xs : List D} {z : D}, SR K G m st H → RpL K m st.length G vs xs → f (xs.map (view st)) = some z →
  ∀ Q : VK, (∀ w G' H', Tr G m st.length G' m st.length → SR K G' m st H' → Rp K m st.length G' w z → Q w H') → r vs H Q
/-- two operands, then the operation -/
theorem two {K : PySem.W.Frag} {f : D → D → Option D} {r : R2} {σ : St} {H : Hp} {Q : VK} (hf : OpSem K f r) (h : tE K W (eB f fa fb) σ H Q) : tOp r (tE K W fa) (tE K W fb) σ H Q := by
  obtain ⟨env, G, m, st, er, S, w⟩ := h
  refine ⟨env, G, m, st, er, S, w.bnd.imp fun x st1 G1 m1 H1 t1 S1 w1 v rv => ?_⟩
  refine ⟨env, G1, m1, st1, er.tr t1, S1, w1.bnd.imp fun y st2 G2 m2 H2 t2 S2 w2 u ru => ?_⟩
  unfold R.of at w2
  split at w2
  · rename_i z ez
    exact hf S2 (rv.tr t2) ru ez Q fun w G' H' t3 S3 r3 => w2 G' m2 H' t3 S3 w r3
  · exact w2.elim
theorem ei_op {op : Operator} {f : D → D → Option D} {r : R2} (ho : OpR X (binaryOp op) r) (hf : OpSem X.K f r) (ha : EI X W a fa) (hb : EI X W b fb) : EI X W (.BinOp a op b pos) (eB f fa fb) :=
  peI (pe_op ho ha hb) fun _ _ _ => two hf
theorem ei_cmp {op : CmpOp} {f : D → D → Option D} {r : R2} (ho : OpR X (compareOp op) r) (hf : OpSem X.K f r) (ha : EI X W a fa) (hb : EI X W b fb) (hm : behindInMarks op b = false := by first | exact nobehind _ (by decide) (by decide) | rfl) : EI X W (.Compare a [op] [b] pos) (eB f fa fb) :=
  peI (pe_cmpR ho ha hb hm) fun _ _ _ => two hf
/-- a bool's answer, as a test -/
theorem tE_test {K : PySem.W.Frag} {f : Ex} {σ : St} {H : Hp} {Q : Bool → Hp → Prop} (h : tT K W (tB f) σ H Q) : tE K W f σ H fun x H' => ∃ k, x = .bl k ∧ Q k H' := by
  obtain ⟨env, G, m, st, er, S, w⟩ := h
  refine ⟨env, G, m, st, er, S, w.bnd.imp fun x st1 G1 m1 H1 t1 S1 w1 v rv => ?_⟩
  split at w1
  · cases rv
    exact ⟨_, rfl, w1.now S1⟩
  · exact w1.elim
theorem ti_cmp {op : CmpOp} {f : D → D → Option D} {r : R2} (ho : OpR X (compareOp op) r) (hf : OpSem X.K f r) (ha : EI X W a fa) (hb : EI X W b fb) (hm : behindInMarks op b = false := by first | exact nobehind _ (by decide) (by decide) | rfl) : TI' X W (.Compare a [op] [b] pos) (tB (eB f fa fb)) :=
  ptI (pt_cmpR ho ha hb hm) fun _ _ _ h => two hf (tE_test h)
theorem three {K : PySem.W.Frag} {f g : D → D → Option D} {r r' : R2} {σ : St} {H : Hp} {Q : VK} (hf : OpSem K f r) (hg : OpSem K g r') (h : tE K W (eCh f g fa fb fc) σ H Q) : tChain r r' (tE K W fa) (tE K W fb) (tE K W fc) σ H Q := by
  obtain ⟨env, G, m, st, er, S, w⟩ := h
  refine ⟨env, G, m, st, er, S, w.bnd.imp fun x st1 G1 m1 H1 t1 S1 w1 v rv => ?_⟩
  refine ⟨env, G1, m1, st1, er.tr t1, S1, w1.bnd.imp fun y st2 G2 m2 H2 t2 S2 w2 u ru => ?_⟩
  split at w2
  · rename_i ez
    refine hf S2 (rv.tr t2) ru ez _ fun w G' H' t3 S3 r3 => ?_
    cases r3
    refine ⟨true, rfl, ?_⟩
    rw [if_pos rfl]
    refine ⟨env, G', m2, st2, ((er.tr t1).tr t2).tr t3, S3, (w2.from t3).bnd.imp fun z st4 G4 m4 H4 t4 S4 w4 q rq => ?_⟩
    unfold R.of at w4
    split at w4
    · rename_i z2 ez2
      exact hg S4 ((ru.tr t3).tr t4) rq ez2 Q fun w G' H' t5 S5 r5 => w4 G' m4 H' t5 S5 w r5
    · exact w4.elim
  · rename_i ez
    refine hf S2 (rv.tr t2) ru ez _ fun w G' H' t3 S3 r3 => ?_
    cases r3
    refine ⟨false, rfl, ?_⟩
    rw [if_neg Bool.false_ne_true]
    exact w2 G' m2 H' t3 S3 _ (.bl _)
  · exact w2.elim
theorem ei_chain {op op' : CmpOp} {f g : D → D → Option D} {r r' : R2} (ho : OpR X (compareOp op) r) (hf : OpSem X.K f r) (ho' : OpR X (compareOp op') r') (hg : OpSem X.K g r') (ha : EI X W a fa) (hb : EI X W b fb) (hc : EI X W c fc)
    (hm : lastMarks [op, op'] [b, c] = false := by with_unfolding_all rfl) : EI X W (.Compare a [op, op'] [b, c] pos) (eCh f g fa fb fc) := peI (pe_chain ho ho' ha hb hc hm) fun _ _ _ => three hf hg
theorem ti_chain {op op' : CmpOp} {f g : D → D → Option D} {r r' : R2} (ho : OpR X (compareOp op) r) (hf : OpSem X.K f r) (ho' : OpR X (compareOp op') r') (hg : OpSem X.K g r') (ha : EI X W a fa) (hb : EI X W b fb) (hc : EI X W c fc)
    (hm : lastMarks [op, op'] [b, c] = false := by with_unfolding_all rfl) : TI' X W (.Compare a [op, op'] [b, c] pos) (tB (eCh f g fa fb fc)) := ptI (pt_chain ho ho' ha hb hc hm) fun _ _ _ q => three hf hg (tE_test q)
theorem ei_un {op : UnaryOp} {f : D → Option D} {r : V → Hp → VK → Prop} (ho : UnR X (unaryOp op) r) (hf : UnSem X.K f r) (ha : EI X W a fa) : EI X W (.UnaryOp op a pos) (eU f fa) := by
  refine peI (pe_un ho ha) fun σ H Q ⟨env, G, m, st, er, S, w⟩ => ?_
  refine ⟨env, G, m, st, er, S, w.bnd.imp fun x st1 G1 m1 H1 t1 S1 w1 v rv => ?_⟩
  unfold R.of at w1
  split at w1
  · rename_i z ez
    exact hf S1 rv ez Q fun w G' H' t3 S3 r3 => w1 G' m1 H' t3 S3 w r3
  · exact w1.elim

/-! ### and, or, not, if -/
theorem ti_val (ha : EI X W e fa) (he : ∀ whole, isTrue e X.env whole = (do let v ← whole; standAt e.pos; holding [v] (truthy v)) := by intro _; rfl) : TI' X W e (tB fa) := ptI (pt_val ha he) fun _ _ _ h => tE_test h
theorem ti_not {f : Tx} (ha : TI' X W a f) : TI' X W (.UnaryOp .Not a pos) (tNot f) := by
  refine ptI (pt_not ha) fun σ H Q ⟨env, G, m, st, er, S, w⟩ => ?_
  exact ⟨env, G, m, st, er, S, w.bnd.imp fun x st1 G1 m1 H1 t1 S1 w1 => w1.now S1⟩
theorem tw_and1 {f : Tx} (ha : TI' X W a f) : TW X W (.BoolOp .And [a] pos) f := pw_and1 ha
theorem tw_or1 {f : Tx} (ha : TI' X W a f) : TW X W (.BoolOp .Or [a] pos) f := pw_or1 ha
theorem tw_and {f g : Tx} {rest : List Expr} (ha : TI' X W a f) (hb : TW X W (.BoolOp .And (b :: rest) pos) g) : TW X W (.BoolOp .And (a :: b :: rest) pos) (tAnd f g) := by
  refine pwI (pw_and ha hb) fun σ H Q ⟨env, G, m, st, er, S, w⟩ => ?_
  refine ⟨env, G, m, st, er, S, w.bnd.imp fun x st1 G1 m1 H1 t1 S1 w1 => ?_⟩
  cases x with
  | true =>
    rw [if_pos rfl] at w1 ⊢
    exact ⟨env, G1, m1, st1, er.tr t1, S1, w1⟩
  | false =>
    rw [if_neg Bool.false_ne_true] at w1 ⊢
    exact w1.now S1
theorem tw_or {f g : Tx} {rest : List Expr} (ha : TI' X W a f) (hb : TW X W (.BoolOp .Or (b :: rest) pos) g) : TW X W (.BoolOp .Or (a :: b :: rest) pos) (tOr f g) := by
  refine pwI (pw_or ha hb) fun σ H Q ⟨env, G, m, st, er, S, w⟩ => ?_
  refine ⟨env, G, m, st, er, S, w.bnd.imp fun x st1 G1 m1 H1 t1 S1 w1 => ?_⟩
  cases x with
  | true =>
    rw [if_pos rfl] at w1 ⊢
    exact w1.now S1
  | false =>
    rw [if_neg Bool.false_ne_true] at w1 ⊢
    exact ⟨env, G1, m1, st1, er.tr t1, S1, w1⟩
theorem ti_w {f : Tx} (h : TW X W a f) : TI' X W a f := h.pt
theorem ei_and1 {op : BoolOp} (ha : EI X W a fa) : EI X W (.BoolOp op [a] pos) fa := pe_one ha
theorem ei_and {rest : List Expr} (ha : EI X W a fa) (hb : EI X W (.BoolOp .And (b :: rest) pos) fb) : EI X W (.BoolOp .And (a :: b :: rest) pos) (eAnd fa fb) := by
  refine peI (pe_and ha hb) fun σ H Q ⟨env, G, m, st, er, S, w⟩ => ?_
  refine ⟨env, G, m, st, er, S, w.bnd.imp fun x st1 G1 m1 H1 t1 S1 w1 v rv => ?_⟩
  split at w1
  · cases rv
    refine ⟨_, rfl, ?_⟩
    rw [if_pos rfl]
    exact ⟨env, G1, m1, st1, er.tr t1, S1, w1⟩
  · cases rv
    refine ⟨_, rfl, ?_⟩
    rw [if_neg Bool.false_ne_true]
    exact w1.now S1 _ (.bl _)
  · exact w1.elim
theorem ei_or {rest : List Expr} (ha : EI X W a fa) (hb : EI X W (.BoolOp .Or (b :: rest) pos) fb) : EI X W (.BoolOp .Or (a :: b :: rest) pos) (eOr fa fb) := by
  refine peI (pe_or ha hb) fun σ H Q ⟨env, G, m, st, er, S, w⟩ => ?_
  refine ⟨env, G, m, st, er, S, w.bnd.imp fun x st1 G1 m1 H1 t1 S1 w1 v rv => ?_⟩
  split at w1
  · cases rv
    refine ⟨_, rfl, ?_⟩
    rw [if_pos rfl]
    exact w1.now S1 _ (.bl _)
  · cases rv
    refine ⟨_, rfl, ?_⟩
    rw [if_neg Bool.false_ne_true]
    exact ⟨env, G1, m1, st1, er.tr t1, S1, w1⟩
  · exact w1.elim
theorem ei_not (ha : EI X W a fa) : EI X W (.UnaryOp .Not a pos) (eNot fa) := by
  refine peI (pe_not ha) fun σ H Q ⟨env, G, m, st, er, S, w⟩ => ?_
  refine ⟨env, G, m, st, er, S, w.bnd.imp fun x st1 G1 m1 H1 t1 S1 w1 v rv => ?_⟩
  split at w1
  · cases rv
    exact ⟨_, rfl, w1.now S1 _ (.bl _)⟩
  · exact w1.elim
theorem ei_if {f : Tx} (hc : TI' X W c f) (ha : EI X W a fa) (hb : EI X W b fb) : EI X W (.IfExp c a b pos) (eIf f fa fb) := by
  refine peI (pe_ifExp hc ha hb) fun σ H Q ⟨env, G, m, st, er, S, w⟩ => ?_
  refine ⟨env, G, m, st, er, S, w.bnd.imp fun x st1 G1 m1 H1 t1 S1 w1 => ?_⟩
  cases x with
  | true =>
    rw [if_pos rfl] at w1 ⊢
    exact ⟨env, G1, m1, st1, er.tr t1, S1, w1⟩
  | false =>
    rw [if_neg Bool.false_ne_true] at w1 ⊢
    exact ⟨env, G1, m1, st1, er.tr t1, S1, w1⟩

/-! ### arguments, displays -/
theorem ai_nil : AI X W [] aNil := paI pa_nil fun σ H Q ⟨env, G, m, st, er, S, w⟩ => (show Wp X.K G m st.length (.ok [] st) _ _ from w).now S [] .nil
theorem ai_cons {f : Ax} (ha : EI X W e fa) (hr : AI X W es f) (hs : starEach (e :: es) X.env = (false, eval e X.env) :: starEach es X.env := by rfl) : AI X W (e :: es) (aCons fa f) := by
  refine paI (pa_cons ha hr hs) fun σ H Q ⟨env, G, m, st, er, S, w⟩ => ?_
  refine ⟨env, G, m, st, er, S, w.bnd.imp fun x st1 G1 m1 H1 t1 S1 w1 v rv => ?_⟩
  refine ⟨env, G1, m1, st1, er.tr t1, S1, w1.bnd.imp fun xs st2 G2 m2 H2 t2 S2 w2 vs rvs => ?_⟩
  exact w2.now S2 _ (.cons (rv.tr t2) rvs)
theorem big : (1000000 : Nat) ≤ sizeLine := by rw [sizeLine_eq]; decide
theorem ei_tup {f : Ax} {x1 : Nat} (h : AI X W es f) : EI X W (.Tuple es x1 pos) (eTup f) := by
  refine peI (pe_tup h) fun σ H Q ⟨env, G, m, st, er, S, w⟩ => ?_
  refine ⟨env, G, m, st, er, S, w.bnd.imp fun xs st1 G1 m1 H1 t1 S1 w1 vs rvs => ?_⟩
  split at w1
  · rename_i hl
    refine ⟨Nat.le_trans (by rw [rvs.length]; exact hl) big, fun p hp => ?_⟩
    exact w1 _ _ _ (S1.trNew hp) (S1.new hp) _ (.tup (SqT.of upd_same) (rvs.tr (S1.trNew hp)))
  · exact w1.elim
theorem ei_lst {f : Ax} (h : AI X W es f) : EI X W (.List es pos) (eLst f) := by
  refine peI (pe_lst h) fun σ H Q ⟨env, G, m, st, er, S, w⟩ => ?_
  refine ⟨env, G, m, st, er, S, w.bnd.imp fun xs st1 G1 m1 H1 t1 S1 w1 vs rvs => ?_⟩
  split at w1
  · rename_i hl
    refine ⟨Nat.le_trans (by rw [rvs.length]; exact hl) big, fun p hp => ?_⟩
    exact w1 _ _ _ (S1.trNew hp) (S1.new hp) _ (.lst upd_same (rvs.tr (S1.trNew hp)))
  · exact w1.elim
theorem ei_lstL {f : Ax} (h : AI X W es f) : EI X W (.List es pos) (eLstL f) := by
  refine peI (pe_lst h) fun σ H Q ⟨env, G, m, st, er, S, w⟩ => ?_
  refine ⟨env, G, m, st, er, S, w.bnd.imp fun xs st1 G1 m1 H1 t1 S1 w1 vs rvs => ?_⟩
  split at w1
  · rename_i hl
    refine ⟨Nat.le_trans (by rw [rvs.length]; exact hl.1) big, fun p hp => ?_⟩
    have S2 := S1.push (u := .lst vs) (o := .lst xs) hp rfl ⟨S1.free hp, vs, upd_same, rvs.gnd xs vs hl.2⟩
    refine w1 _ _ _ S1.trPush S2 _ ?_
    have q := Rp.ref (K := X.K) (m := fun i => if i = st1.length then p else m1 i) (n := (st1 ++ [SO.lst xs]).length) (G := G1) (i := st1.length) (by simp)
    simp only [if_true] at q
    exact q
  · exact w1.elim
end
end Cb

set_option Elab.async false
set_option linter.all false
set_option maxRecDepth 100000
set_option maxHeartbeats 4000000
/-! CbOp: the operations on values. -/
namespace Cb
open PySem PySem.Spec PyProof.Rows L2

section
variable {K : PySem.W.Frag} {m : Nat → Addr} {st : Sto} {G H : Hp} {v u : V} {x y : D}
/-- what a value that stands as d is -/
theorem v_int {i : Int} (r : Rp K m st.length G v x) (e : view st x = .int i) : v = .int i := by
  have q := view_else e (fun xs z => by cases z)
  subst q
  cases r
  rfl
theorem v_bl {i : Bool} (r : Rp K m st.length G v x) (e : view st x = .bl i) : v = .bl i := by
  have q := view_else e (fun xs z => by cases z)
  subst q
  cases r
  rfl
theorem v_str {i : Str} (r : Rp K m st.length G v x) (e : view st x = .str i) : v = .str i := by
  have q := view_else e (fun xs z => by cases z)
  subst q
  cases r
  rfl
theorem v_non (r : Rp K m st.length G v x) (e : view st x = .non) : v = .non := by
  have q := view_else e (fun xs z => by cases z)
  subst q
  cases r
  rfl
theorem v_tup {xs : List D} (r : Rp K m st.length G v x) (e : view st x = .tup xs) : ∃ a vs, v = .ref a ∧ SqT K G a vs ∧ RpL K m st.length G vs xs := by
  have q := view_else e (fun xs z => by cases z)
  subst q
  cases r with
  | tup h1 h2 => exact ⟨_, _, rfl, h1, h2⟩
theorem v_scr {xs : List D} (r : Rp K m st.length G v x) (e : view st x = .scr xs) : ∃ a vs, v = .ref a ∧ SqL K G a vs ∧ RpL K m st.length G vs xs := by
  have q := view_else e (fun xs z => by cases z)
  subst q
  cases r with
  | scr h1 h2 => exact ⟨_, _, rfl, h1, h2⟩

/-- a new tuple, a new list -/
theorem new_tup (S : SR K G m st H) {vs : List V} {xs : List D} {p : Addr} (r : RpL K m st.length G vs xs) (hp : H p = none) {Q : VK} (q : ∀ w G' H', Tr G m st.length G' m st.length → SR K G' m st H' → Rp K m st.length G' w (.tup xs) → Q w H') : Q (.ref p) (upd H p (.tup vs)) :=
  q _ _ _ (S.trNew hp) (S.new hp) (.tup (SqT.of upd_same) (r.tr (S.trNew hp)))
theorem new_lst (S : SR K G m st H) {vs : List V} {xs : List D} {p : Addr} (r : RpL K m st.length G vs xs) (hp : H p = none) {Q : VK} (q : ∀ w G' H', Tr G m st.length G' m st.length → SR K G' m st H' → Rp K m st.length G' w (.lst xs) → Q w H') : Q (.ref p) (upd H p (.lst vs)) :=
  q _ _ _ (S.trNew hp) (S.new hp) (.lst upd_same (r.tr (S.trNew hp)))
end

theorem some_inj {α : Type} {a b : α} (h : some a = some b) : a = b := Option.some.inj h
theorem le_line {n : Nat} (h : n ≤ 1000000) : n ≤ sizeLine := Nat.le_trans h big

/-! ### operators -/
section
variable {X : Cx} {K : PySem.W.Frag}
def rAddD (K : PySem.W.Frag) : R2 := fun x y H Q => (rI0 fun i j => .int (i + j)) x y H Q ∨ (∃ i j, x = .str i ∧ y = .str j ∧ i.length + j.length ≤ sizeLine ∧ Q (.str (i ++ j)) H) ∨ rCatA K x y H Q ∨ rCat x y H Q
theorem op_addD : OpR X (binaryOp .Add) (rAddD X.K) := op_add.or (op_add_str.or (op_catA.or op_cat))
theorem os_add : OpSem K oAdd (rAddD K) := by
  intro G m st H v u x y z S rv ru e Q q
  unfold oAdd at e
  split at e
  · rename_i i j hx hy
    rw [v_int rv hx, v_int ru hy]
    cases e
    exact .inl ⟨i, j, rfl, rfl, q _ _ _ Tr.refl S (.int _)⟩
  · rename_i i j hx hy
    split at e
    · rename_i hl
      rw [v_str rv hx, v_str ru hy]
      cases e
      exact .inr (.inl ⟨i, j, rfl, rfl, le_line hl, q _ _ _ Tr.refl S (.str _)⟩)
    · cases e
  · rename_i xs ys hx hy
    split at e
    · rename_i hl
      obtain ⟨a, vs, rfl, h1, r1⟩ := v_tup rv hx
      obtain ⟨b, us, rfl, h2, r2⟩ := v_tup ru hy
      cases e
      refine .inr (.inr (.inl ⟨a, b, vs, us, rfl, rfl, same_t S.ex h1, same_t S.ex h2, by rw [r1.length, r2.length]; exact le_line hl, fun e1 => ?_, fun _ e2 => ?_, fun _ _ p hp => new_tup S (r1.app r2) hp q⟩))
      · subst e1
        cases r1
        exact q _ _ _ Tr.refl S (.tup h2 r2)
      · subst e2
        cases r2
        rw [List.append_nil] at q
        exact q _ _ _ Tr.refl S (.tup h1 r1)
    · cases e
  · rename_i xs ys hx hy
    split at e
    · rename_i hl
      obtain ⟨a, vs, rfl, h1, r1⟩ := view_lst S rv hx
      obtain ⟨b, us, rfl, h2, r2⟩ := view_lst S ru hy
      cases e
      exact .inr (.inr (.inr ⟨a, b, vs, us, rfl, rfl, h1, h2, by rw [r1.length, r2.length]; exact le_line hl, fun p hp => new_lst S (r1.app r2) hp q⟩))
    · cases e
  · cases e
theorem os_int {f : D → D → Option D} {g : Int → Int → V} {h : Int → Int → D} (hf : ∀ x y z, f x y = some z → ∃ i j, x = .int i ∧ y = .int j ∧ z = h i j) (hr : ∀ i j m n G, Rp K m n G (g i j) (h i j)) : OpSem K f (rI0 g) := by
  intro G m st H v u x y z S rv ru e Q q
  obtain ⟨i, j, hx, hy, rfl⟩ := hf _ _ _ e
  rw [v_int rv hx, v_int ru hy]
  exact ⟨i, j, rfl, rfl, q _ _ _ Tr.refl S (hr i j _ _ _)⟩
theorem os_intC {f : D → D → Option D} {C : Int → Int → Prop} {g : Int → Int → V} {h : Int → Int → D} (hf : ∀ x y z, f x y = some z → ∃ i j, x = .int i ∧ y = .int j ∧ C i j ∧ z = h i j) (hr : ∀ i j m n G, Rp K m n G (g i j) (h i j)) : OpSem K f (rI C g) := by
  intro G m st H v u x y z S rv ru e Q q
  obtain ⟨i, j, hx, hy, hc, rfl⟩ := hf _ _ _ e
  rw [v_int rv hx, v_int ru hy]
  exact ⟨i, j, rfl, rfl, hc, q _ _ _ Tr.refl S (hr i j _ _ _)⟩
theorem os_sub : OpSem K oSub (rI0 fun i j => .int (i - j)) := os_int (h := fun i j => .int (i - j)) (fun x y z e => by unfold oSub at e; split at e <;> first | exact ⟨_, _, rfl, rfl, (some_inj e).symm⟩ | cases e) fun _ _ _ _ _ => .int _
theorem os_lt : OpSem K oLt (rI0 fun i j => .bl (decide (i < j))) := os_int (h := fun i j => .bl (decide (i < j))) (fun x y z e => by unfold oLt at e; split at e <;> first | exact ⟨_, _, rfl, rfl, (some_inj e).symm⟩ | cases e) fun _ _ _ _ _ => .bl _
theorem os_le : OpSem K oLe (rI0 fun i j => .bl (decide (i ≤ j))) := os_int (h := fun i j => .bl (decide (i ≤ j))) (fun x y z e => by unfold oLe at e; split at e <;> first | exact ⟨_, _, rfl, rfl, (some_inj e).symm⟩ | cases e) fun _ _ _ _ _ => .bl _
theorem os_gt : OpSem K oGt (rI0 fun i j => .bl (decide (j < i))) := os_int (h := fun i j => .bl (decide (j < i))) (fun x y z e => by unfold oGt at e; split at e <;> first | exact ⟨_, _, rfl, rfl, (some_inj e).symm⟩ | cases e) fun _ _ _ _ _ => .bl _
theorem os_ge : OpSem K oGe (rI0 fun i j => .bl (decide (j ≤ i))) := os_int (h := fun i j => .bl (decide (j ≤ i))) (fun x y z e => by unfold oGe at e; split at e <;> first | exact ⟨_, _, rfl, rfl, (some_inj e).symm⟩ | cases e) fun _ _ _ _ _ => .bl _
theorem os_mod : OpSem K oMod (rI (fun _ j => 0 < j) fun i j => .int (i % j)) := os_intC (h := fun i j => .int (i % j)) (fun x y z e => by
  unfold oMod at e
  split at e
  · split at e
    · rename_i h
      exact ⟨_, _, rfl, rfl, h, (some_inj e).symm⟩
    · cases e
  · cases e) fun _ _ _ _ _ => .int _
theorem os_div : OpSem K oDiv (rI CDivW fun i j => .int (i / j)) := os_intC (h := fun i j => .int (i / j)) (fun x y z e => by
  unfold oDiv at e
  split at e
  · split at e
    · rename_i h
      exact ⟨_, _, rfl, rfl, h, (some_inj e).symm⟩
    · cases e
  · cases e) fun _ _ _ _ _ => .int _
theorem os_pow : OpSem K oPow (rI CPow fun i j => .int (i ^ j.toNat)) := os_intC (h := fun i j => .int (i ^ j.toNat)) (fun x y z e => by
  unfold oPow at e
  split at e
  · split at e
    · rename_i h
      exact ⟨_, _, rfl, rfl, h, (some_inj e).symm⟩
    · cases e
  · cases e) fun _ _ _ _ _ => .int _
def rMulD : R2 := fun x y H Q => (rI CMul fun i j => .int (i * j)) x y H Q ∨ (rI CMulW fun i j => .int (i * j)) x y H Q ∨ rRep x y H Q
theorem op_mulD : OpR X (binaryOp .Mult) rMulD := op_mul.or (op_mulW.or op_rep)
theorem rep_rel {m : Nat → Addr} {n : Nat} {G : Hp} {vs : List V} {xs : List D} (r : RpL K m n G vs xs) : ∀ k : Nat, RpL K m n G (List.replicate k vs).flatten (List.replicate k xs).flatten
  | 0 => .nil
  | k + 1 => by
    rw [List.replicate_succ, List.replicate_succ, List.flatten_cons, List.flatten_cons]
    exact r.app (rep_rel r k)
theorem os_mul : OpSem K oMul rMulD := by
  intro G m st H v u x y z S rv ru e Q q
  unfold oMul at e
  split at e
  · rename_i i j hx hy
    split at e
    · rename_i hm
      rw [v_int rv hx, v_int ru hy]
      cases e
      have h := of_decide_eq_true hm
      rcases h with h | h | h
      · exact .inl ⟨i, j, rfl, rfl, .inl h, q _ _ _ Tr.refl S (.int _)⟩
      · exact .inl ⟨i, j, rfl, rfl, .inr h, q _ _ _ Tr.refl S (.int _)⟩
      · exact .inr (.inl ⟨i, j, rfl, rfl, h, q _ _ _ Tr.refl S (.int _)⟩)
    · cases e
  · rename_i xs k hx hy
    split at e
    · rename_i hl
      obtain ⟨h1, h2, h3⟩ := hl
      obtain ⟨a, vs, rfl, hv, r⟩ := view_lst S rv hx
      rw [v_int ru hy]
      cases e
      exact .inr (.inr ⟨a, k, vs, rfl, rfl, hv, by omega, by omega, by rw [r.length]; exact le_line h3, fun p hp => new_lst S (rep_rel r _) hp q⟩)
    · cases e
  · cases e
theorem us_neg : UnSem K oNeg (rU fun i => .int (-i)) := by
  intro G m st H v x z S rv e Q q
  unfold oNeg at e
  split at e
  · rename_i i hx
    rw [v_int rv hx]
    cases e
    exact ⟨i, rfl, q _ _ _ Tr.refl S (.int _)⟩
  · cases e
theorem os_isN : OpSem K oIsN (fun x y H Q => y = .non ∧ Q (.bl (decide (x = .non))) H) := by
  intro G m st H v u x y z S rv ru e Q q
  unfold oIsN at e
  split at e
  · rename_i hy
    refine ⟨v_non ru hy, ?_⟩
    have key : z = .bl (decide (v = .non)) := by
      cases hx : view st x with
      | non =>
        rw [v_non rv hx, decide_eq_true rfl]
        rw [hx] at e
        exact (some_inj e).symm
      | _ =>
        have ne : v ≠ .non := fun h => by
          subst h
          cases rv
          simp [view] at hx
        rw [decide_eq_false ne]
        rw [hx] at e
        exact (some_inj e).symm
    subst key
    exact q _ _ _ Tr.refl S (.bl _)
  · cases e
theorem os_notN : OpSem K oNotN (fun x y H Q => y = .non ∧ Q (.bl (!decide (x = .non))) H) := by
  intro G m st H v u x y z S rv ru e Q q
  unfold oNotN at e
  split at e
  · rename_i hy
    refine ⟨v_non ru hy, ?_⟩
    have key : z = .bl (!decide (v = .non)) := by
      cases hx : view st x with
      | non =>
        rw [v_non rv hx, decide_eq_true rfl]
        rw [hx] at e
        exact (some_inj e).symm
      | _ =>
        have ne : v ≠ .non := fun h => by
          subst h
          cases rv
          simp [view] at hx
        rw [decide_eq_false ne]
        rw [hx] at e
        exact (some_inj e).symm
    subst key
    exact q _ _ _ Tr.refl S (.bl _)
  · cases e

/-! ### == -/
mutual
def D.py : D → PyData
  | .non => .none
  | .bl b => .bool b
  | .int i => .int i
  | .str x => .str x
  | .tup xs => .tuple (D.pys xs)
  | .lst xs => .list (D.pys xs)
  | .scr xs => .list (D.pys xs)
  | _ => .none
def D.pys : List D → List PyData
  | [] => []
  | d :: ds => d.py :: D.pys ds
end
mutual
theorem py_rel {m : Nat → Addr} {n : Nat} {G : Hp} : ∀ (k : Nat) (d : D) (v : V), d.plain k = true → Rp K m n G v d → Dp K G v d.py
  | _, .non, _, _, h => by cases h; simp only [D.py]; exact .non
  | _, .bl _, _, _, h => by cases h; simp only [D.py]; exact .bl _
  | _, .int _, _, _, h => by cases h; simp only [D.py]; exact .int _
  | _, .str _, _, _, h => by cases h; simp only [D.py]; exact .str _
  | 0, .tup _, _, p, _ => by simp [D.plain] at p
  | 0, .lst _, _, p, _ => by simp [D.plain] at p
  | 0, .scr _, _, p, _ => by simp [D.plain] at p
  | k + 1, .tup ds, _, p, h => by
    cases h with
    | tup h1 h2 =>
      simp only [D.py]
      exact .tup h1 (pys_rel k ds _ (by simpa [D.plain] using p) h2)
  | k + 1, .lst ds, _, p, h => by
    cases h with
    | lst h1 h2 =>
      simp only [D.py]
      exact .lst (SqL.of h1) (pys_rel k ds _ (by simpa [D.plain] using p) h2)
  | k + 1, .scr ds, _, p, h => by
    cases h with
    | scr h1 h2 =>
      simp only [D.py]
      exact .lst h1 (pys_rel k ds _ (by simpa [D.plain] using p) h2)
  | k, .obj _ _ _, _, p, _ => by cases k <;> simp [D.plain] at p
  | k, .exn _ _ _, _, p, _ => by cases k <;> simp [D.plain] at p
  | k, .ref _, _, p, _ => by cases k <;> simp [D.plain] at p
  | k, .cls _, _, p, _ => by cases k <;> simp [D.plain] at p
  | k, .ty _, _, p, _ => by cases k <;> simp [D.plain] at p
theorem pys_rel {m : Nat → Addr} {n : Nat} {G : Hp} : ∀ (k : Nat) (ds : List D) (vs : List V), D.plains k ds = true → RpL K m n G vs ds → DpAll K G vs (D.pys ds)
  | _, [], _, _, h => by cases h; simp only [D.pys]; exact .nil
  | k, d :: ds, _, p, h => by
    have p' : d.plain k = true ∧ D.plains k ds = true := by simpa [D.plains] using p
    cases h with
    | cons h1 h2 =>
      simp only [D.pys]
      exact .cons (py_rel k d _ p'.1 h1) (pys_rel k ds _ p'.2 h2)
end
mutual
theorem dp_same {G G' : Hp} (s : Same G G') : ∀ (d : PyData) (v : V), Dp K G v d → Dp K G' v d
  | .none, _, h => by cases h; exact .non
  | .bool _, _, h => by cases h; exact .bl _
  | .int _, _, h => by cases h; exact .int _
  | .str _, _, h => by cases h; exact .str _
  | .list ds, _, h => by cases h with | lst h1 h2 => exact .lst (same_l s h1) (dps_same s ds _ h2)
  | .tuple ds, _, h => by cases h with | tup h1 h2 => exact .tup (same_t s h1) (dps_same s ds _ h2)
  | .dict _, _, h => by cases h
theorem dps_same {G G' : Hp} (s : Same G G') : ∀ (ds : List PyData) (vs : List V), DpAll K G vs ds → DpAll K G' vs ds
  | [], _, h => by cases h; exact .nil
  | d :: ds, _, h => by cases h with | cons h1 h2 => exact .cons (dp_same s d _ h1) (dps_same s ds _ h2)
end
end
end Cb

set_option Elab.async false
set_option linter.all false
set_option maxRecDepth 100000
set_option maxHeartbeats 4000000
/-! CbOp2: ==, in, subscripts, slices, calls of built-ins. -/
namespace Cb
open PySem PySem.Spec PyProof.Rows L2

mutual
theorem plain_py : ∀ (n : Nat) (d : D), d.plain n = true → d.py.plain = true ∧ d.py.depth ≤ n
  | _, .non, _ => by simp [D.py, PyData.plain, PyData.depth]
  | _, .bl _, _ => by simp [D.py, PyData.plain, PyData.depth]
  | _, .int _, _ => by simp [D.py, PyData.plain, PyData.depth]
  | _, .str _, _ => by simp [D.py, PyData.plain, PyData.depth]
  | 0, .tup _, p => by simp [D.plain] at p
  | 0, .lst _, p => by simp [D.plain] at p
  | 0, .scr _, p => by simp [D.plain] at p
  | k + 1, .tup ds, p => by
    have h := plains_py k ds (by simpa [D.plain] using p)
    exact ⟨by simpa [D.py, PyData.plain] using h.1, by simp only [D.py, PyData.depth]; omega⟩
  | k + 1, .lst ds, p => by
    have h := plains_py k ds (by simpa [D.plain] using p)
    exact ⟨by simpa [D.py, PyData.plain] using h.1, by simp only [D.py, PyData.depth]; omega⟩
  | k + 1, .scr ds, p => by
    have h := plains_py k ds (by simpa [D.plain] using p)
    exact ⟨by simpa [D.py, PyData.plain] using h.1, by simp only [D.py, PyData.depth]; omega⟩
  | k, .obj _ _ _, p => by cases k <;> simp [D.plain] at p
  | k, .exn _ _ _, p => by cases k <;> simp [D.plain] at p
  | k, .ref _, p => by cases k <;> simp [D.plain] at p
  | k, .cls _, p => by cases k <;> simp [D.plain] at p
  | k, .ty _, p => by cases k <;> simp [D.plain] at p
theorem plains_py : ∀ (n : Nat) (ds : List D), D.plains n ds = true → PyData.plainAll (D.pys ds) = true ∧ PyData.depthAll (D.pys ds) ≤ n
  | _, [], _ => by simp [D.pys, PyData.plainAll, PyData.depthAll]
  | k, d :: ds, p => by
    have p' : d.plain k = true ∧ D.plains k ds = true := by simpa [D.plains] using p
    have h1 := plain_py k d p'.1
    have h2 := plains_py k ds p'.2
    exact ⟨by simp [D.pys, PyData.plainAll, h1.1, h2.1], by simp only [D.pys, PyData.depthAll]; exact Nat.max_le.mpr ⟨h1.2, h2.2⟩⟩
end
mutual
theorem eqv_py : ∀ (n k : Nat) (x y : D), x.plain n = true → y.plain k = true → D.eqv x y = PyData.eqv x.py y.py
  | n, k, .tup xs, y, p, q => by
    cases n with
    | zero => simp [D.plain] at p
    | succ n =>
      cases y <;> first
        | (simp [D.eqv, D.py, PyData.eqv]; done)
        | (cases k <;> simp [D.plain] at q; done)
        | (cases k with
          | zero => simp [D.plain] at q
          | succ k => simp only [D.eqv, D.py, PyData.eqv]; first | rfl | exact eqvs_py n k _ _ (by simpa [D.plain] using p) (by simpa [D.plain] using q))
  | n, k, .lst xs, y, p, q => by
    cases n with
    | zero => simp [D.plain] at p
    | succ n =>
      cases y <;> first
        | (simp [D.eqv, D.py, PyData.eqv]; done)
        | (cases k <;> simp [D.plain] at q; done)
        | (cases k with
          | zero => simp [D.plain] at q
          | succ k => simp only [D.eqv, D.py, PyData.eqv]; first | rfl | exact eqvs_py n k _ _ (by simpa [D.plain] using p) (by simpa [D.plain] using q))
  | n, k, .scr xs, y, p, q => by
    cases n with
    | zero => simp [D.plain] at p
    | succ n =>
      cases y <;> first
        | (simp [D.eqv, D.py, PyData.eqv]; done)
        | (cases k <;> simp [D.plain] at q; done)
        | (cases k with
          | zero => simp [D.plain] at q
          | succ k => simp only [D.eqv, D.py, PyData.eqv]; first | rfl | exact eqvs_py n k _ _ (by simpa [D.plain] using p) (by simpa [D.plain] using q))
  | n, k, .non, y, _, q => by cases y <;> first | (simp [D.eqv, D.py, PyData.eqv]; done) | (cases k <;> simp [D.plain] at q)
  | n, k, .bl _, y, _, q => by cases y <;> first | (simp [D.eqv, D.py, PyData.eqv]; done) | (cases k <;> simp [D.plain] at q)
  | n, k, .int _, y, _, q => by cases y <;> first | (simp [D.eqv, D.py, PyData.eqv]; done) | (cases k <;> simp [D.plain] at q)
  | n, k, .str _, y, _, q => by cases y <;> first | (simp [D.eqv, D.py, PyData.eqv]; done) | (cases k <;> simp [D.plain] at q)
  | n, _, .obj _ _ _, _, p, _ => by cases n <;> simp [D.plain] at p
  | n, _, .exn _ _ _, _, p, _ => by cases n <;> simp [D.plain] at p
  | n, _, .ref _, _, p, _ => by cases n <;> simp [D.plain] at p
  | n, _, .cls _, _, p, _ => by cases n <;> simp [D.plain] at p
  | n, _, .ty _, _, p, _ => by cases n <;> simp [D.plain] at p
theorem eqvs_py : ∀ (n k : Nat) (xs ys : List D), D.plains n xs = true → D.plains k ys = true → D.eqvs xs ys = PyData.eqvAll (D.pys xs) (D.pys ys)
  | _, _, [], ys, _, _ => by cases ys <;> simp [D.eqvs, D.pys, PyData.eqvAll]
  | n, k, x :: xs, ys, p, q => by
    cases ys with
    | nil => simp [D.eqvs, D.pys, PyData.eqvAll]
    | cons y ys =>
      have p' : x.plain n = true ∧ D.plains n xs = true := by simpa [D.plains] using p
      have q' : y.plain k = true ∧ D.plains k ys = true := by simpa [D.plains] using q
      simp only [D.eqvs, D.pys, PyData.eqvAll, eqv_py n k x y p'.1 q'.1, eqvs_py n k xs ys p'.2 q'.2]
end
theorem any_py (n k : Nat) (x : D) (hx : x.plain n = true) : ∀ ys : List D, D.plains k ys = true → (ys.any fun z => z.eqv x) = (D.pys ys).any fun z => PyData.eqv z x.py
  | [], _ => rfl
  | y :: ys, q => by
    have q' : y.plain k = true ∧ D.plains k ys = true := by simpa [D.plains] using q
    simp only [List.any_cons, D.pys, eqv_py k n y x q'.1 hx, any_py n k x hx ys q'.2]

section
variable {X : Cx} {K : PySem.W.Frag} {m : Nat → Addr} {st : Sto} {G H : Hp} {v u : V} {x y : D}
/-- a value as it stands, as data -/
theorem py_view (S : SR K G m st H) (r : Rp K m st.length G v x) {k : Nat} (p : (view st x).plain k = true) : Dp K H v (view st x).py := by
  cases hx : view st x with
  | lst xs =>
    rw [hx] at p
    obtain ⟨a, vs, rfl, hv, rv⟩ := view_lst S r hx
    cases k with
    | zero => simp [D.plain] at p
    | succ k =>
      simp only [D.py]
      exact .lst (SqL.of hv) (dps_same S.ex _ _ (pys_rel k xs vs (by simpa [D.plain] using p) rv))
  | _ =>
    have e := view_else hx (fun xs z => by cases z)
    rw [hx] at p
    subst e
    exact dp_same S.ex _ _ (py_rel k _ v p r)

def rEq2 (K : PySem.W.Frag) : R2 := fun x y H Q => ∃ d e, Dp K H x d ∧ Dp K H y e ∧ d.plain = true ∧ e.plain = true ∧ d.depth ≤ 60 ∧ e.depth ≤ 60 ∧ Q (.bl (PyData.eqv d e)) H
def rNe2 (K : PySem.W.Frag) : R2 := fun x y H Q => ∃ d e, Dp K H x d ∧ Dp K H y e ∧ d.plain = true ∧ e.plain = true ∧ d.depth ≤ 60 ∧ e.depth ≤ 60 ∧ Q (.bl (!PyData.eqv d e)) H
theorem op_eq2 (hu : X.A.units + 64 < cLine) : OpR X (compareOp .Eq) (rEq2 X.K) := by
  intro pins s σ H x y v u Q I rx ry h
  obtain ⟨d, e, hd, he, sd, se, td, te, q⟩ := h
  obtain ⟨as, r1⟩ := Dp.reads I d x v hd rx
  obtain ⟨bs, r2⟩ := Dp.reads I e y u he ry
  exact SeqAt.eq_plain r1 r2 sd se (by omega) ⟨.bl _, H, I, rfl, q⟩
theorem op_ne2 (hu : X.A.units + 64 < cLine) : OpR X (compareOp .NotEq) (rNe2 X.K) := by
  intro pins s σ H x y v u Q I rx ry h
  obtain ⟨d, e, hd, he, sd, se, td, te, q⟩ := h
  obtain ⟨as, r1⟩ := Dp.reads I d x v hd rx
  obtain ⟨bs, r2⟩ := Dp.reads I e y u he ry
  exact SeqAt.ne_plain r1 r2 sd se (by omega) ⟨.bl _, H, I, rfl, q⟩
theorem os_eq : OpSem K oEq (rEq2 K) := by
  intro G m st H v u x y z S rv ru e Q q
  unfold oEq at e
  split at e
  · rename_i h
    cases e
    obtain ⟨h1, h2⟩ := plain_py 60 _ h.1
    obtain ⟨h3, h4⟩ := plain_py 60 _ h.2
    refine ⟨_, _, py_view S rv h.1, py_view S ru h.2, h1, h3, h2, h4, ?_⟩
    rw [← eqv_py 60 60 _ _ h.1 h.2]
    exact q _ _ _ Tr.refl S (.bl _)
  · cases e
theorem os_ne : OpSem K oNe (rNe2 K) := by
  intro G m st H v u x y z S rv ru e Q q
  unfold oNe at e
  split at e
  · rename_i h
    cases e
    obtain ⟨h1, h2⟩ := plain_py 60 _ h.1
    obtain ⟨h3, h4⟩ := plain_py 60 _ h.2
    refine ⟨_, _, py_view S rv h.1, py_view S ru h.2, h1, h3, h2, h4, ?_⟩
    rw [← eqv_py 60 60 _ _ h.1 h.2]
    exact q _ _ _ Tr.refl S (.bl _)
  · cases e
def rIn2 (K : PySem.W.Frag) (neg : Bool) : R2 := fun x y H Q => (∃ d ds, Dp K H x d ∧ (Dp K H y (.list ds) ∨ Dp K H y (.tuple ds)) ∧ d.plain = true ∧ PyData.plainAll ds = true ∧ d.depth ≤ 60 ∧ Q (.bl (if neg then !ds.any fun z => PyData.eqv z d else ds.any fun z => PyData.eqv z d)) H) ∨
  ∃ (c : Nat) (z : Str), x = .str ⟨#[c]⟩ ∧ y = .str z ∧ Q (.bl (if neg then !decide (c ∈ z.cps.toList) else decide (c ∈ z.cps.toList))) H
theorem op_in2 (hu : X.A.units + 64 < cLine) : OpR X (compareOp .In) (rIn2 X.K false) := by
  intro pins s σ H x y v u Q I rx ry h
  rcases h with ⟨d, ds, hd, he, sd, se, td, q⟩ | h
  · obtain ⟨as, r1⟩ := Dp.reads I d x v hd rx
    rcases he with he | he
    · obtain ⟨bs, r2⟩ := Dp.reads I _ y u he ry
      exact SeqAt.in_list_data r2 r1 se sd (by omega) ⟨.bl _, H, I, rfl, q⟩
    · obtain ⟨bs, r2⟩ := Dp.reads I _ y u he ry
      exact SeqAt.in_tuple_data r2 r1 se sd (by omega) ⟨.bl _, H, I, rfl, q⟩
  · exact op_in_sign pins s σ H x y v u Q I rx ry h
theorem op_notIn2 (hu : X.A.units + 64 < cLine) : OpR X (compareOp .NotIn) (rIn2 X.K true) := by
  intro pins s σ H x y v u Q I rx ry h
  rcases h with ⟨d, ds, hd, he, sd, se, td, q⟩ | h
  · obtain ⟨as, r1⟩ := Dp.reads I d x v hd rx
    rcases he with he | he
    · obtain ⟨bs, r2⟩ := Dp.reads I _ y u he ry
      exact SeqAt.notIn_list_data r2 r1 se sd (by omega) ⟨.bl _, H, I, rfl, q⟩
    · obtain ⟨bs, r2⟩ := Dp.reads I _ y u he ry
      exact SeqAt.notIn_tuple_data r2 r1 se sd (by omega) ⟨.bl _, H, I, rfl, q⟩
  · exact op_notIn_sign pins s σ H x y v u Q I rx ry h
theorem in_key {neg : Bool} {b : Bool} (S : SR K G m st H) (rv : Rp K m st.length G v x) (ru : Rp K m st.length G u y) (e : isInD (view st x) (view st y) = some b) {Q : VK}
    (q : Q (.bl (if neg then !b else b)) H) : rIn2 K neg v u H Q := by
  unfold isInD at e
  split at e
  · rename_i ys hy
    split at e
    · rename_i h
      cases e
      obtain ⟨h1, h2⟩ := plain_py 60 _ h.1
      obtain ⟨h3, h4⟩ := plains_py 59 _ h.2
      have dy : (view st y).plain 60 = true := by rw [hy]; simpa [D.plain] using h.2
      have py := py_view S ru dy
      rw [hy] at py
      simp only [D.py] at py
      refine .inl ⟨_, _, py_view S rv h.1, .inr py, h1, h3, h2, ?_⟩
      rw [← any_py 60 59 _ h.1 _ h.2]
      exact q
    · cases e
  · rename_i ys hy
    split at e
    · rename_i h
      cases e
      obtain ⟨h1, h2⟩ := plain_py 60 _ h.1
      obtain ⟨h3, h4⟩ := plains_py 59 _ h.2
      have dy : (view st y).plain 60 = true := by rw [hy]; simpa [D.plain] using h.2
      have py := py_view S ru dy
      rw [hy] at py
      simp only [D.py] at py
      refine .inl ⟨_, _, py_view S rv h.1, .inl py, h1, h3, h2, ?_⟩
      rw [← any_py 60 59 _ h.1 _ h.2]
      exact q
    · cases e
  · rename_i z hy
    split at e
    · rename_i w hx
      split at e
      · rename_i c hc
        cases e
        refine .inr ⟨c, z, ?_, v_str ru hy, q⟩
        rw [v_str rv hx]
        congr 1
        cases w with
        | mk w =>
          have : w = #[c] := by
            apply Array.toList_inj.mp
            simpa using hc
          rw [this]
      · cases e
    · cases e
  · cases e
theorem os_in : OpSem K oIn (rIn2 K false) := by
  intro G m st H v u x y z S rv ru e Q q
  unfold oIn at e
  cases h : isInD (view st x) (view st y) with
  | none => rw [h] at e; cases e
  | some b =>
    rw [h] at e
    cases e
    exact in_key S rv ru h (q _ _ _ Tr.refl S (.bl _))
theorem os_notIn : OpSem K oNotIn (rIn2 K true) := by
  intro G m st H v u x y z S rv ru e Q q
  unfold oNotIn at e
  cases h : isInD (view st x) (view st y) with
  | none => rw [h] at e; cases e
  | some b =>
    rw [h] at e
    cases e
    exact in_key S rv ru h (q _ _ _ Tr.refl S (.bl _))

/-! ### subscripts, slices -/
theorem at_rel {m : Nat → Addr} {n : Nat} {G : Hp} {vs : List V} {xs : List D} {i : Int} {d : D} (r : RpL K m n G vs xs) (e : ((ixD xs.length i).bind fun j => xs[j]?) = some d) : ∃ w, atI vs i = some w ∧ Rp K m n G w d := by
  cases h : ixD xs.length i with
  | none => rw [h] at e; cases e
  | some j =>
    rw [h] at e
    obtain ⟨w, h1, h2⟩ := r.get (show xs[j]? = some d from e)
    refine ⟨w, ?_, h2⟩
    unfold atI
    rw [r.length]
    rw [show ixN xs.length i = some j from h]
    exact h1
theorem os_ix : OpSem K oIx (rIx K) := by
  intro G m st H v u x y z S rv ru e Q q
  unfold oIx at e
  split at e
  · rename_i xs i hx hy
    obtain ⟨a, vs, rfl, h1, r1⟩ := v_tup rv hx
    obtain ⟨w, h2, h3⟩ := at_rel r1 e
    exact .inr (.inl ⟨a, vs, i, w, rfl, v_int ru hy, same_t S.ex h1, h2, q _ _ _ Tr.refl S h3⟩)
  · rename_i xs i hx hy
    obtain ⟨a, vs, rfl, h1, r1⟩ := view_lst S rv hx
    obtain ⟨w, h2, h3⟩ := at_rel r1 e
    exact .inl ⟨a, vs, i, w, rfl, v_int ru hy, SqL.of h1, h2, q _ _ _ Tr.refl S h3⟩
  · rename_i z' i hx hy
    split at e
    · rename_i hl
      cases h : ixD z'.cps.toList.length i with
      | none => rw [h] at e; cases e
      | some j =>
        rw [h] at e
        have e2 : ((z'.cps.toList[j]?).map fun c => D.str ⟨#[c]⟩) = some z := e
        cases h2 : z'.cps.toList[j]? with
        | none => rw [h2] at e2; cases e2
        | some c =>
          rw [h2] at e2
          cases e2
          refine .inr (.inr ⟨z', i, c, v_str rv hx, v_int ru hy, le_line hl, ?_, q _ _ _ Tr.refl S (.str _)⟩)
          unfold atI
          rw [show ixN z'.cps.toList.length i = some j from h]
          exact h2
    · cases e
  · cases e
variable {W : WX} {a b c e : Expr} {es : List Expr} {fa fb fc : Ex} {pos : Pos}
theorem ei_ix (ha : EI X W a fa) (hb : EI X W b fb) (hs : PlainIx b := by exact fun _ _ => rfl) : EI X W (.Subscript a b pos) (eB oIx fa fb) :=
  peI (pe_ix ix_seq ha hb hs) fun _ _ _ => two os_ix
def tO (K : PySem.W.Frag) (W : WX) (f : Env → Sto → R (Option Int)) : TO := fun σ H Q => ∃ env G m st, ER K m st.length G σ env ∧ SR K G m st H ∧
  Wp K G m st.length (f env st) (fun o _ _ _ H' => Q o H') fun c dd H' => W c dd σ H'
abbrev OI (X : Cx) (W : WX) (e : Option Expr) (f : Env → Sto → R (Option Int)) : Prop := PO X e (tO X.K W f)
theorem poI {X : Cx} {e : Option Expr} {t t' : TO} (h : PO X e t) (i : ∀ σ H Q, t' σ H Q → t σ H Q) : PO X e t' := ⟨fun pins s σ H Q I q => h.run pins s σ H Q I (i σ H Q q)⟩
theorem oi_none : OI X W none pNone := poI po_none fun σ H Q ⟨env, G, m, st, er, S, w⟩ => (show Wp X.K G m st.length (.ok none st) _ _ from w).now S
theorem oi_some (h : EI X W e fa) : OI X W (some e) (pSome fa) := by
  refine poI (po_some h) fun σ H Q ⟨env, G, m, st, er, S, w⟩ => ?_
  refine ⟨env, G, m, st, er, S, w.bnd.imp fun x st1 G1 m1 H1 t1 S1 w1 v rv => ?_⟩
  split at w1
  · cases rv
    exact ⟨_, rfl, w1.now S1⟩
  · exact w1.elim
def rSl2 (K : PySem.W.Frag) : V → Option Int → Option Int → Hp → VK → Prop := fun x lo hi H Q => rSlL K x lo hi H Q ∨ rSlA K x lo hi H Q
theorem cut_whole {xs : List D} {l h : Option Int} (hw : sIxD xs.length 0 l = 0 ∧ sIxD xs.length xs.length h = xs.length) : cutD xs l h = xs := by
  unfold cutD
  rw [hw.1, hw.2]
  simp
theorem cut_rel {m : Nat → Addr} {n : Nat} {G : Hp} {vs : List V} {xs : List D} (r : RpL K m n G vs xs) (lo hi : Option Int) : RpL K m n G (cutV vs lo hi) (cutD xs lo hi) := by
  unfold cutV cutD
  have e : ∀ (n d : Nat) (o : Option Int), HT.sIx n d o = sIxD n d o := fun n d o => by
    cases o with
    | none => rfl
    | some v =>
      unfold HT.sIx sIxD
      rfl
  rw [r.length, e, e]
  exact (r.dropR _).takeR _
theorem ei_sl {lo hi : Option Expr} {fl fh : Env → Sto → R (Option Int)} {p2 : Pos} (ha : EI X W a fa) (hl : OI X W lo fl) (hh : OI X W hi fh) : EI X W (.Subscript a (.Slice lo hi none p2) pos) (eSl fa fl fh) := by
  refine peI (pe_slice (r := rSl2 X.K) (sl_list.or sl_tupA) ha hl hh) fun σ H Q ⟨env, G, m, st, er, S, w⟩ => ?_
  refine ⟨env, G, m, st, er, S, w.bnd.imp fun x st1 G1 m1 H1 t1 S1 w1 v rv => ?_⟩
  refine ⟨env, G1, m1, st1, er.tr t1, S1, w1.bnd.imp fun l st2 G2 m2 H2 t2 S2 w2 => ?_⟩
  refine ⟨env, G2, m2, st2, (er.tr t1).tr t2, S2, w2.bnd.imp fun h st3 G3 m3 H3 t3 S3 w3 => ?_⟩
  have rv3 := (rv.tr t2).tr t3
  unfold R.of at w3
  split at w3
  · rename_i z ez
    have fin : ∀ w G' H', Tr G3 m3 st3.length G' m3 st3.length → SR X.K G' m3 st3 H' → Rp X.K m3 st3.length G' w z → Q w H' := fun w G' H' t4 S4 r4 => w3 G' m3 H' t4 S4 w r4
    unfold oSl at ez
    split at ez
    · rename_i l h xs hx
      obtain ⟨p, vs, rfl, h1, r1⟩ := v_tup rv3 hx
      cases ez
      refine .inr ⟨p, vs, rfl, same_t S3.ex h1, fun hw => ?_, fun _ q hq => new_tup S3 (cut_rel r1 _ _) hq fin⟩
      have e : ∀ (n d : Nat) (o : Option Int), HT.sIx n d o = sIxD n d o := fun n d o => by
        cases o with
        | none => rfl
        | some v =>
          unfold HT.sIx sIxD
          rfl
      rw [r1.length, e, e] at hw
      refine fin _ _ _ Tr.refl S3 ?_
      rw [cut_whole hw]
      exact .tup h1 r1
    · rename_i l h xs hx
      obtain ⟨p, vs, rfl, h1, r1⟩ := view_lst S3 rv3 hx
      cases ez
      exact .inl ⟨p, vs, rfl, SqL.of h1, fun q hq => new_lst S3 (cut_rel r1 _ _) hq fin⟩
    · rename_i l h xs hx
      obtain ⟨p, vs, rfl, h1, r1⟩ := v_scr rv3 hx
      cases ez
      exact .inl ⟨p, vs, rfl, same_l S3.ex h1, fun q hq => new_lst S3 (cut_rel r1 _ _) hq fin⟩
    · cases ez
  · exact w3.elim
end
end Cb

set_option Elab.async false
set_option linter.all false
set_option maxRecDepth 100000
set_option maxHeartbeats 4000000
/-! CbCall: calls of built-ins. -/
namespace Cb
open PySem PySem.Spec PyProof.Rows L2

section
variable {X : Cx} {K : PySem.W.Frag} {W : WX} {a b c e : Expr} {es : List Expr} {fa fb fc : Ex} {pos p : Pos} {x : Str} {id T : String}
theorem views {m : Nat → Addr} {st : Sto} {G : Hp} : ∀ {vs : List V} {xs : List D}, RpL K m st.length G vs xs → vs.length = (xs.map (view st)).length := fun r => by rw [List.length_map, r.length]
theorem cB_key {f : List D → Option D} {r : List V → Hp → VK → Prop} {fas : Ax} {σ : St} {H : Hp} {Q : VK} (hf : ClSem K f r) (h : tE K W (eC1 f fas) σ H Q) : tCB r (tA K W fas) σ H Q := by
  obtain ⟨env, G, m, st, er, S, w⟩ := h
  refine ⟨env, G, m, st, er, S, w.bnd.imp fun xs st1 G1 m1 H1 t1 S1 w1 vs rvs => ?_⟩
  unfold R.of at w1
  split at w1
  · rename_i z ez
    exact hf S1 rvs ez Q fun w G' H' t3 S3 r3 => w1 G' m1 H' t3 S3 w r3
  · exact w1.elim
theorem ei_callB {f : List D → Option D} {r : List V → Hp → VK → Prop} {fas : Ax} (hc : CallR X (.builtin id) r) (hf : ClSem X.K f r) (hg : Gl X x) (hm : X.mg x = none) (hv : bootBuiltins x = some (.builtin id)) (ha : AI X W (e :: es) fas) (hn : x ≠ "__name__" := by decide) (hdb : (x == ("__debug__" : Str)) = false := by decide)
    (he : starEach (e :: es) X.env = (false, eval e X.env) :: starEach es X.env := by rfl) (hpl : (backTo pos (starEach es X.env)).any (·.1) = false := by rfl) : EI X W (.Call (.Name x p) (e :: es) [] pos) (eC1 f fas) :=
  peI (pe_callB hc hg hm hv ha hn hdb he hpl) fun _ _ _ h => cB_key hf h
theorem ei_callTy {f : List D → Option D} {r : List V → Hp → VK → Prop} {fas : Ax} (hc : CallR X (.type T) r) (hf : ClSem X.K f r) (hg : Gl X x) (hm : X.mg x = none) (hv : bootBuiltins x = some (.type T)) (ha : AI X W (e :: es) fas) (hn : x ≠ "__name__" := by decide) (hdb : (x == ("__debug__" : Str)) = false := by decide)
    (he : starEach (e :: es) X.env = (false, eval e X.env) :: starEach es X.env := by rfl) (hpl : (backTo pos (starEach es X.env)).any (·.1) = false := by rfl) : EI X W (.Call (.Name x p) (e :: es) [] pos) (eC1 f fas) :=
  peI (pe_callTy hc hg hm hv ha hn hdb he hpl) fun _ _ _ h => cB_key hf h
/-- one, two arguments -/
theorem map1 {xs : List D} {g : D → D} {y : D} (h : xs.map g = [y]) : ∃ x, xs = [x] ∧ g x = y := by
  match xs, h with
  | [x], h => exact ⟨x, rfl, by simpa using h⟩
  | [], h => cases h
  | _ :: _ :: _, h => simp at h
theorem map2 {xs : List D} {g : D → D} {y z : D} (h : xs.map g = [y, z]) : ∃ x x', xs = [x, x'] ∧ g x = y ∧ g x' = z := by
  match xs, h with
  | [x, x'], h => exact ⟨x, x', rfl, by simpa using h⟩
  | [], h => cases h
  | [_], h => simp at h
  | _ :: _ :: _ :: _, h => simp at h
theorem rp1 {m : Nat → Addr} {n : Nat} {G : Hp} {vs : List V} {y : D} (r : RpL K m n G vs [y]) : ∃ v, vs = [v] ∧ Rp K m n G v y := by
  cases r with
  | cons h1 h2 => cases h2; exact ⟨_, rfl, h1⟩
theorem rp2 {m : Nat → Addr} {n : Nat} {G : Hp} {vs : List V} {y z : D} (r : RpL K m n G vs [y, z]) : ∃ v u, vs = [v, u] ∧ Rp K m n G v y ∧ Rp K m n G u z := by
  cases r with
  | cons h1 h2 =>
    obtain ⟨u, rfl, h3⟩ := rp1 h2
    exact ⟨_, u, rfl, h1, h3⟩

def rLen (K : PySem.W.Frag) : List V → Hp → VK → Prop := fun xs H Q => ∃ x n, xs = [x] ∧ LenV K x H n ∧ Q (.int n) H
theorem cs_len : ClSem K cLen (rLen K) := by
  intro G m st H vs xs z S rvs e Q q
  unfold cLen at e
  split at e
  · rename_i ys h
    obtain ⟨x, rfl, hx⟩ := map1 h
    obtain ⟨v, rfl, rv⟩ := rp1 rvs
    obtain ⟨p, us, rfl, h1, r1⟩ := v_tup rv hx
    cases e
    exact ⟨_, _, rfl, .inr ⟨us, same_t S.ex h1, r1.length.symm⟩, q _ _ _ Tr.refl S (.int _)⟩
  · rename_i ys h
    obtain ⟨x, rfl, hx⟩ := map1 h
    obtain ⟨v, rfl, rv⟩ := rp1 rvs
    obtain ⟨p, us, rfl, h1, r1⟩ := view_lst S rv hx
    cases e
    exact ⟨_, _, rfl, .inl ⟨us, SqL.of h1, r1.length.symm⟩, q _ _ _ Tr.refl S (.int _)⟩
  · rename_i ys h
    obtain ⟨x, rfl, hx⟩ := map1 h
    obtain ⟨v, rfl, rv⟩ := rp1 rvs
    obtain ⟨p, us, rfl, h1, r1⟩ := v_scr rv hx
    cases e
    exact ⟨_, _, rfl, .inl ⟨us, same_l S.ex h1, r1.length.symm⟩, q _ _ _ Tr.refl S (.int _)⟩
  · rename_i y h
    obtain ⟨x, rfl, hx⟩ := map1 h
    obtain ⟨v, rfl, rv⟩ := rp1 rvs
    split at e
    · rename_i hl
      cases e
      rw [v_str rv hx]
      exact ⟨_, _, rfl, ⟨le_line hl, rfl⟩, q _ _ _ Tr.refl S (.int _)⟩
    · cases e
  · cases e
theorem cs_abs : ClSem K cAbs (fun xs H Q => ∃ i, xs = [.int i] ∧ Q (.int (if i < 0 then -i else i)) H) := by
  intro G m st H vs xs z S rvs e Q q
  unfold cAbs at e
  split at e
  · rename_i i h
    obtain ⟨x, rfl, hx⟩ := map1 h
    obtain ⟨v, rfl, rv⟩ := rp1 rvs
    cases e
    exact ⟨i, by rw [v_int rv hx], q _ _ _ Tr.refl S (.int _)⟩
  · cases e
theorem cs_int : ClSem K cInt (fun xs H Q => (∃ i, xs = [.int i] ∧ Q (.int i) H) ∨ ∃ k, xs = [.bl k] ∧ Q (.int (if k then 1 else 0)) H) := by
  intro G m st H vs xs z S rvs e Q q
  unfold cInt at e
  split at e
  · rename_i i h
    obtain ⟨x, rfl, hx⟩ := map1 h
    obtain ⟨v, rfl, rv⟩ := rp1 rvs
    cases e
    exact .inl ⟨i, by rw [v_int rv hx], q _ _ _ Tr.refl S (.int _)⟩
  · rename_i i h
    obtain ⟨x, rfl, hx⟩ := map1 h
    obtain ⟨v, rfl, rv⟩ := rp1 rvs
    cases e
    exact .inr ⟨i, by rw [v_bl rv hx], q _ _ _ Tr.refl S (.int _)⟩
  · cases e
theorem cs_max : ClSem K cMax (fun xs H Q => ∃ i j, xs = [.int i, .int j] ∧ Q (.int (if j > i then j else i)) H) := by
  intro G m st H vs xs z S rvs e Q q
  unfold cMax at e
  split at e
  · rename_i i j h
    obtain ⟨x, y, rfl, hx, hy⟩ := map2 h
    obtain ⟨v, u, rfl, rv, ru⟩ := rp2 rvs
    cases e
    exact ⟨i, j, by rw [v_int rv hx, v_int ru hy], q _ _ _ Tr.refl S (.int _)⟩
  · cases e
theorem cs_min : ClSem K cMin (fun xs H Q => ∃ i j, xs = [.int i, .int j] ∧ Q (.int (if j < i then j else i)) H) := by
  intro G m st H vs xs z S rvs e Q q
  unfold cMin at e
  split at e
  · rename_i i j h
    obtain ⟨x, y, rfl, hx, hy⟩ := map2 h
    obtain ⟨v, u, rfl, rv, ru⟩ := rp2 rvs
    cases e
    exact ⟨i, j, by rw [v_int rv hx, v_int ru hy], q _ _ _ Tr.refl S (.int _)⟩
  · cases e
theorem cs_tuple : ClSem K cTuple (fun xs H Q => ∃ p ys, xs = [.ref p] ∧ ((SqL K H p ys ∧ ∀ l, H l = none → Q (.ref l) (upd H l (.tup ys))) ∨ (SqT K H p ys ∧ Q (.ref p) H))) := by
  intro G m st H vs xs z S rvs e Q q
  unfold cTuple at e
  split at e
  · rename_i ys h
    obtain ⟨x, rfl, hx⟩ := map1 h
    obtain ⟨v, rfl, rv⟩ := rp1 rvs
    obtain ⟨p, us, rfl, h1, r1⟩ := v_tup rv hx
    cases e
    exact ⟨_, _, rfl, .inr ⟨same_t S.ex h1, q _ _ _ Tr.refl S (.tup h1 r1)⟩⟩
  · rename_i ys h
    obtain ⟨x, rfl, hx⟩ := map1 h
    obtain ⟨v, rfl, rv⟩ := rp1 rvs
    obtain ⟨p, us, rfl, h1, r1⟩ := view_lst S rv hx
    cases e
    exact ⟨_, _, rfl, .inl ⟨SqL.of h1, fun l hl => new_tup S r1 hl q⟩⟩
  · rename_i ys h
    obtain ⟨x, rfl, hx⟩ := map1 h
    obtain ⟨v, rfl, rv⟩ := rp1 rvs
    obtain ⟨p, us, rfl, h1, r1⟩ := v_scr rv hx
    cases e
    exact ⟨_, _, rfl, .inl ⟨same_l S.ex h1, fun l hl => new_tup S r1 hl q⟩⟩
  · cases e
theorem cs_list : ClSem K cList (fun xs H Q => ∃ p ys, xs = [.ref p] ∧ (SqL K H p ys ∨ SqT K H p ys) ∧ ∀ l, H l = none → Q (.ref l) (upd H l (.lst ys))) := by
  intro G m st H vs xs z S rvs e Q q
  unfold cList at e
  split at e
  · rename_i ys h
    obtain ⟨x, rfl, hx⟩ := map1 h
    obtain ⟨v, rfl, rv⟩ := rp1 rvs
    obtain ⟨p, us, rfl, h1, r1⟩ := v_tup rv hx
    cases e
    exact ⟨_, _, rfl, .inr (same_t S.ex h1), fun l hl => new_lst S r1 hl q⟩
  · rename_i ys h
    obtain ⟨x, rfl, hx⟩ := map1 h
    obtain ⟨v, rfl, rv⟩ := rp1 rvs
    obtain ⟨p, us, rfl, h1, r1⟩ := view_lst S rv hx
    cases e
    exact ⟨_, _, rfl, .inl (SqL.of h1), fun l hl => new_lst S r1 hl q⟩
  · rename_i ys h
    obtain ⟨x, rfl, hx⟩ := map1 h
    obtain ⟨v, rfl, rv⟩ := rp1 rvs
    obtain ⟨p, us, rfl, h1, r1⟩ := v_scr rv hx
    cases e
    exact ⟨_, _, rfl, .inl (same_l S.ex h1), fun l hl => new_lst S r1 hl q⟩
  · cases e
theorem ints_rel {m : Nat → Addr} {n : Nat} {G : Hp} : ∀ {xs : List D} {vs : List V} {ns : List Int}, RpL K m n G vs xs → xs.mapM D.int? = some ns → vs = ns.map V.int
  | [], _, ns, r, e => by
    cases r
    cases e
    rfl
  | x :: xs, _, ns, r, e => by
    cases r with
    | cons h1 h2 =>
      rw [List.mapM_cons] at e
      cases x with
      | int i =>
        cases h : xs.mapM D.int? with
        | none => rw [h] at e; cases e
        | some ms =>
          rw [h] at e
          cases e
          cases h1
          rw [ints_rel h2 h]
          rfl
      | _ => cases e
theorem rel_ints {m : Nat → Addr} {n : Nat} {G : Hp} : ∀ ns : List Int, RpL K m n G (ns.map V.int) (ns.map D.int)
  | [] => .nil
  | i :: ns => .cons (.int i) (rel_ints ns)
def rSum2 (K : PySem.W.Frag) : List V → Hp → VK → Prop := fun vs H Q => ∃ (a : Addr) (ns : List Int), vs = [V.ref a] ∧ (SqL K H a (ns.map V.int) ∨ SqT K H a (ns.map V.int)) ∧ Q (.int ns.sum) H
theorem cr_sum2 (hc : X.calm = true) : CallR X (.builtin "sum") (rSum2 X.K) := by
  intro pins s σ H vs us Q I r h
  obtain ⟨a, ns, rfl, hs | hs, q⟩ := h
  · exact cr_sum hc pins s σ H _ us Q I r ⟨a, ns, rfl, hs, q⟩
  · obtain ⟨its, rv, hl, _⟩ := I.tuple hs
    rw [Vals.ref1 r]
    obtain ⟨o, h1, h2, n, h3⟩ := hl
    have hI := rv.ints
    obtain ⟨xs, e⟩ := hI.allInts.items
    have hn : numsOf (intItems xs).toList = ns := by rw [← e]; exact hI.numsOf
    rw [nums_intItems] at hn
    have hl : s.heap.IsTuple a (intItems xs) := ⟨o, h1, h2, n, by rw [← e]; exact h3⟩
    refine PySem.W.ktm_sumG (I.ok.hd hc) hl fun h' tk t' hk => ?_
    rw [preSum_eq, List.take_of_length_le (by simp), hn]
    exact ⟨.int _, H, I.kept hk, ⟨_, rfl⟩, q⟩
theorem cs_sum : ClSem K cSum (rSum2 K) := by
  intro G m st H vs xs z S rvs e Q q
  unfold cSum at e
  split at e
  · rename_i ys h
    obtain ⟨x, rfl, hx⟩ := map1 h
    obtain ⟨v, rfl, rv⟩ := rp1 rvs
    obtain ⟨p, us, rfl, h1, r1⟩ := view_lst S rv hx
    cases hm : ys.mapM D.int? with
    | none => rw [hm] at e; cases e
    | some ns =>
      rw [hm] at e
      cases e
      rw [ints_rel r1 hm] at h1
      exact ⟨_, ns, rfl, .inl (SqL.of h1), q _ _ _ Tr.refl S (.int _)⟩
  · rename_i ys h
    obtain ⟨x, rfl, hx⟩ := map1 h
    obtain ⟨v, rfl, rv⟩ := rp1 rvs
    obtain ⟨p, us, rfl, h1, r1⟩ := v_tup rv hx
    cases hm : ys.mapM D.int? with
    | none => rw [hm] at e; cases e
    | some ns =>
      rw [hm] at e
      cases e
      rw [ints_rel r1 hm] at h1
      exact ⟨_, ns, rfl, .inr (same_t S.ex h1), q _ _ _ Tr.refl S (.int _)⟩
  · cases e
/-! sorted, of ints -/
theorem insI_perm (x : Int) : ∀ ys : List Int, (insI x ys).Perm (x :: ys)
  | [] => .refl _
  | y :: ys => by
    unfold insI
    split
    · exact .refl _
    · exact ((insI_perm x ys).cons y).trans (List.Perm.swap x y ys)
theorem sortI_perm : ∀ xs : List Int, (sortI xs).Perm xs
  | [] => .refl _
  | x :: xs => (insI_perm x _).trans ((sortI_perm xs).cons x)
theorem insI_sorted (x : Int) : ∀ ys : List Int, ys.Pairwise (· ≤ ·) → (insI x ys).Pairwise (· ≤ ·)
  | [], _ => by simp [insI]
  | y :: ys, h => by
    obtain ⟨h1, h2⟩ := List.pairwise_cons.mp h
    unfold insI
    split
    · rename_i hx
      refine List.pairwise_cons.mpr ⟨fun z hz => ?_, h⟩
      rcases List.mem_cons.mp hz with rfl | hz
      · exact hx
      · exact Int.le_trans hx (h1 z hz)
    · rename_i hx
      refine List.pairwise_cons.mpr ⟨fun z hz => ?_, insI_sorted x ys h2⟩
      rcases List.mem_cons.mp ((insI_perm x ys).mem_iff.mp hz) with rfl | hz
      · omega
      · exact h1 z hz
theorem sortI_sorted : ∀ xs : List Int, (sortI xs).Pairwise (· ≤ ·)
  | [] => .nil
  | x :: xs => insI_sorted x _ (sortI_sorted xs)
theorem cs_sorted : ClSem K cSorted (rSortedI K) := by
  intro G m st H vs xs z S rvs e Q q
  unfold cSorted at e
  split at e
  · rename_i ys h
    obtain ⟨x, rfl, hx⟩ := map1 h
    obtain ⟨v, rfl, rv⟩ := rp1 rvs
    obtain ⟨p, us, rfl, h1, r1⟩ := view_lst S rv hx
    cases hm : ys.mapM D.int? with
    | none => rw [hm] at e; cases e
    | some ns =>
      rw [hm] at e
      have e2 : (if ns.length ≤ 1000000 then some (D.lst ((sortI ns).map D.int)) else none) = some z := e
      split at e2
      · cases e2
        rw [ints_rel r1 hm] at h1
        refine ⟨_, ns, rfl, SqL.of h1, fun ns' p hp hs hn => ?_⟩
        have : ns' = sortI ns := List.Perm.eq_of_pairwise (fun a b _ _ h1 h2 => Int.le_antisymm h1 h2) hs (sortI_sorted ns) (hp.trans (sortI_perm ns).symm)
        rw [this]
        exact new_lst S (rel_ints _) hn q
      · cases e2
  · cases e
end
end Cb

set_option Elab.async false
set_option linter.all false
set_option maxRecDepth 100000
set_option maxHeartbeats 4000000
/-! CbSt: statements. -/
namespace Cb
open PySem PySem.Spec PyProof.Rows L2

/-! ### the program's classes -/
abbrev tv (K : PySem.W.Frag) : String ⊕ String → Value
  | .inl n => .type n
  | .inr C => .ref (gaC K C)
structure POk (K : PySem.W.Frag) (P : Pg) : Prop where
  own : ∀ C ∈ P.own, Cls K (gaC K C) ∧ PySem.W.findIn K (.ref (gaC K C)) "__class__" = some (some (.builtin "object.__class__")) ∧ PySem.W.mroIn K (gaC K C) (.type "object") = some true
  bn : PySem.W.specialIn K (.builtin "object.__class__") "__get__" = some (some (.builtin "getset_descriptor.__get__"))
  bt : PySem.W.takesIn K (.builtin "object.__class__") = some true
  exc : ∀ C ∈ P.exc, ExcC K (gaC K C)
  fld : ∀ p ∈ P.fld, NoAttr K (gaC K p.1) (Str.ofString p.2)
  con : ∀ p ∈ P.con, ∃ t, Con K (gaC K p.1.1) (Str.ofString p.1.2) (.int p.2) (.int p.2 t)
  ct : ∀ q ∈ P.ct, PySem.W.kitOne K (tv K q.1) (tv K q.2.1) = some q.2.2
def conB (K : PySem.W.Frag) (C : Addr) (f : Str) (i : Int) : Bool := match PySem.W.findIn K (.ref C) f with
  | some (some (.int j t)) => decide (j = i) && (decide (PySem.W.specialIn K (.int j t) "__get__" = some none) && !PySem.W.copiedNames.contains f)
  | _ => false
theorem conB_ok {K : PySem.W.Frag} {C : Addr} {f : Str} {i : Int} (h : conB K C f i = true) : ∃ t, Con K C f (.int i) (.int i t) := by
  unfold conB at h
  split at h
  · rename_i j t e
    obtain ⟨h1, h⟩ := Bool.and_eq_true_iff.mp h
    obtain ⟨h2, h3⟩ := Bool.and_eq_true_iff.mp h
    have h1 := of_decide_eq_true h1
    subst h1
    exact ⟨t, e, ⟨t, rfl⟩, of_decide_eq_true h2, by simpa using h3⟩
  · cases h
def ownB (K : PySem.W.Frag) (C : Addr) : Bool := PySem.W.plainGet K C Str.empty && (PySem.W.hasDictIn K C && (PySem.W.plainOver K C && (decide (PySem.W.findIn K (.ref C) "__setattr__" = some (some (.builtin "object.__setattr__"))) &&
  (decide (PySem.W.findIn K (.ref C) "__class__" = some (some (.builtin "object.__class__"))) && decide (PySem.W.mroIn K C (.type "object") = some true)))))
def excB (K : PySem.W.Frag) (C : Addr) : Bool := decide (PySem.W.findIn K (.ref C) "__getattribute__" = some (some (.builtin "BaseException.__getattribute__"))) && (decide (PySem.W.findIn K (.ref C) "__getattr__" = some none) && (decide (PySem.W.subIn K (.ref C) (.type "BaseException") = some true) && (PySem.W.hasDictIn K C &&
  (decide (PySem.W.findIn K (.ref C) "__class__" = some (some (.builtin "object.__class__"))) && decide (PySem.W.mroIn K C (.type "object") = some true)))))
def POk.chk (K : PySem.W.Frag) (P : Pg) : Bool := P.own.all (fun C => ownB K (gaC K C)) && (decide (PySem.W.specialIn K (.builtin "object.__class__") "__get__" = some (some (.builtin "getset_descriptor.__get__"))) && (decide (PySem.W.takesIn K (.builtin "object.__class__") = some true) &&
  (P.exc.all (fun C => excB K (gaC K C)) && (P.fld.all (fun p => decide (PySem.W.findIn K (.ref (gaC K p.1)) (Str.ofString p.2) = some none)) && (P.con.all (fun p => conB K (gaC K p.1.1) (Str.ofString p.1.2) p.2) &&
  P.ct.all fun q => decide (PySem.W.kitOne K (tv K q.1) (tv K q.2.1) = some q.2.2))))))
theorem POk.of {K : PySem.W.Frag} {P : Pg} (h : POk.chk K P = true) : POk K P := by
  obtain ⟨h1, h⟩ := Bool.and_eq_true_iff.mp h
  obtain ⟨h2, h⟩ := Bool.and_eq_true_iff.mp h
  obtain ⟨h3, h⟩ := Bool.and_eq_true_iff.mp h
  obtain ⟨h4, h⟩ := Bool.and_eq_true_iff.mp h
  obtain ⟨h5, h⟩ := Bool.and_eq_true_iff.mp h
  obtain ⟨h6, h7⟩ := Bool.and_eq_true_iff.mp h
  have h2 := of_decide_eq_true h2
  have h3 := of_decide_eq_true h3
  refine ⟨fun C hC => ?_, h2, h3, fun C hC => ?_, fun p hp => (of_decide_eq_true (List.all_eq_true.mp h5 p hp) : PySem.W.findIn K (.ref (gaC K p.1)) (Str.ofString p.2) = some none), fun p hp => conB_ok (List.all_eq_true.mp h6 p hp), fun q hq => of_decide_eq_true (List.all_eq_true.mp h7 q hq)⟩
  · obtain ⟨a1, z⟩ := Bool.and_eq_true_iff.mp (List.all_eq_true.mp h1 C hC)
    obtain ⟨a2, z⟩ := Bool.and_eq_true_iff.mp z
    obtain ⟨a3, z⟩ := Bool.and_eq_true_iff.mp z
    obtain ⟨a4, z⟩ := Bool.and_eq_true_iff.mp z
    obtain ⟨a5, a6⟩ := Bool.and_eq_true_iff.mp z
    exact ⟨⟨a1, a2, a3, of_decide_eq_true a4⟩, of_decide_eq_true a5, of_decide_eq_true a6⟩
  · obtain ⟨a1, z⟩ := Bool.and_eq_true_iff.mp (List.all_eq_true.mp h4 C hC)
    obtain ⟨a2, z⟩ := Bool.and_eq_true_iff.mp z
    obtain ⟨a3, z⟩ := Bool.and_eq_true_iff.mp z
    obtain ⟨a4, z⟩ := Bool.and_eq_true_iff.mp z
    obtain ⟨a5, a6⟩ := Bool.and_eq_true_iff.mp z
    exact ⟨of_decide_eq_true a1, of_decide_eq_true a2, of_decide_eq_true a3, a4, of_decide_eq_true a5, h2, h3, of_decide_eq_true a6⟩

/-! ### attributes -/
theorem ofs_inj {a b : String} (h : Str.ofString a = Str.ofString b) : a = b := by
  rw [Str.ofString_eq_toList, Str.ofString_eq_toList] at h
  have h1 : (a.toList.map Char.toNat) = b.toList.map Char.toNat := by simpa using h
  have key : ∀ {l k : List Char}, l.map Char.toNat = k.map Char.toNat → l = k := by
    intro l
    induction l with
    | nil => intro k h; cases k with
      | nil => rfl
      | cons y k => simp at h
    | cons x l ih => intro k h; cases k with
      | nil => simp at h
      | cons y k =>
        simp only [List.map_cons, List.cons.injEq] at h
        rw [Char.toNat_inj.mp h.1, ih h.2]
  have h2 : a.toList = b.toList := key h1
  exact String.toList_inj.mp h2
theorem fsV_lookup {K : PySem.W.Frag} {m : Nat → Addr} {n : Nat} {G : Hp} {f : String} {d : D} : ∀ {fs : List String} {vs : List V} {xs : List D}, RpL K m n G vs xs → fldD f fs xs = some d → ∃ v, (fsV fs vs).lookup (Str.ofString f) = some v ∧ Rp K m n G v d
  | [], _, xs, _, e => by cases xs <;> simp [fldD] at e
  | g :: fs, _, [], _, e => by simp [fldD] at e
  | g :: fs, _, x :: xs, r, e => by
    cases r with
    | @cons v vs _ _ h1 h2 =>
      unfold fldD at e
      by_cases hg : g = f
      · rw [if_pos hg] at e
        cases e
        subst hg
        exact ⟨v, by simp [fsV, List.lookup_cons], h1⟩
      · rw [if_neg hg] at e
        obtain ⟨w, h3, h4⟩ := fsV_lookup h2 e
        refine ⟨w, ?_, h4⟩
        have ne : (Str.ofString f == Str.ofString g) = false := by
          rw [beq_eq_false_iff_ne]
          exact fun z => hg (ofs_inj z.symm)
        show List.lookup (Str.ofString f) ((Str.ofString g, v) :: fsV fs vs) = some w
        rw [List.lookup_cons, ne]
        exact h3
theorem fldD_at {K : PySem.W.Frag} {m : Nat → Addr} {n : Nat} {G : Hp} {f : String} {d : D} : ∀ {fs : List String} {vs : List V} {xs : List D}, RpL K m n G vs xs → fldD f fs xs = some d → ∃ j : Nat, fs[j]? = some f ∧ ∃ v, vs[j]? = some v ∧ Rp K m n G v d
  | [], _, xs, _, e => by cases xs <;> simp [fldD] at e
  | g :: fs, _, [], _, e => by simp [fldD] at e
  | g :: fs, _, x :: xs, r, e => by
    cases r with
    | cons h1 h2 =>
      unfold fldD at e
      split at e
      · rename_i hg
        cases e
        exact ⟨0, by simp [hg], _, rfl, h1⟩
      · obtain ⟨j, e1, v, e2, r3⟩ := fldD_at h2 e
        exact ⟨j + 1, by simpa using e1, v, by simpa using e2, r3⟩
theorem fsV_none {f : String} : ∀ {fs : List String} {vs : List V}, f ∉ fs → (fsV fs vs).lookup (Str.ofString f) = none
  | [], vs, _ => by simp [fsV]
  | g :: fs, [], _ => by simp [fsV]
  | g :: fs, v :: vs, h => by
    have ne : (Str.ofString f == Str.ofString g) = false := by
      rw [beq_eq_false_iff_ne]
      exact fun z => h (by rw [ofs_inj z]; exact List.mem_cons_self)
    show List.lookup (Str.ofString f) ((Str.ofString g, v) :: fsV fs vs) = none
    rw [List.lookup_cons, ne]
    exact fsV_none fun z => h (List.mem_cons_of_mem _ z)
theorem conD_mem {C f : String} {d : D} : ∀ {l : List ((String × String) × Int)}, conD C f l = some d → ∃ i, d = .int i ∧ ((C, f), i) ∈ l
  | [], e => by simp [conD] at e
  | (k, i) :: r, e => by
    unfold conD at e
    split at e
    · rename_i h
      subst h
      cases e
      exact ⟨i, rfl, List.mem_cons_self⟩
    · obtain ⟨j, h1, h2⟩ := conD_mem e
      exact ⟨j, h1, List.mem_cons_of_mem _ h2⟩
section
variable {X : Cx} {W : WX} {a b c e : Expr} {es : List Expr} {fa fb fc : Ex} {pos p : Pos} {P : Pg}
/-- e.f by values: a field of an instance, a number of its class, a field of an exception -/
def tAttr (K : PySem.W.Frag) (ta : TE) (f : Str) : TE := fun σ H Q => ta σ H fun x H1 =>
  (∃ a C dx fs v, x = .ref a ∧ H1 a = some (.ins C dx fs) ∧ Cls K C ∧ NoAttr K C f ∧ fs.lookup f = some v ∧ Q v H1) ∨
  (∃ a C dx fs v u, x = .ref a ∧ H1 a = some (.ins C dx fs) ∧ Cls K C ∧ Con K C f v u ∧ fs.lookup f = none ∧ Q v H1) ∨
  (∃ a C dd fs v, x = .ref a ∧ H1 a = some (XO a (.ref C) (some dd)) ∧ ExcC K C ∧ NoAttr K C f ∧ H1 dd = some (.xd fs) ∧ fs.lookup f = some v ∧ Q v H1)
theorem pe_attr {f : Str} {te : TE} (he : PE X e te) (hb : attributeBase e f X.env (eval e X.env) = eval e X.env) : PE X (.Attribute e f pos) (tAttr X.K te f) := by
  refine ⟨fun pins s σ H Q I h => ?_⟩
  refine attr_of hb (thn (he.run pins s σ H _ I h) fun u s1 ⟨x, H1, I1, rx, h1⟩ => ?_)
  rcases h1 with ⟨a, C, dx, fs, v, ex, ea, c, n, l, q⟩ | ⟨a, C, dx, fs, v, u0, ex, ea, c, k, l, q⟩ | ⟨a, C, dd, fs, v, ex, ea, c, n, ed, l, q⟩
  · subst ex
    obtain rfl : u = Value.ref a := rx
    exact getattr_ok I1 ea c n l fun u' s2 I2 ru => ⟨v, H1, I2, ru, q⟩
  · subst ex
    obtain rfl : u = Value.ref a := rx
    exact getcon_ok I1 ea c k l fun s2 I2 => ⟨v, H1, I2, k.rel, q⟩
  · subst ex
    obtain rfl : u = Value.ref a := rx
    obtain ⟨⟨oe, vs, ho, hz, hv⟩, _, _⟩ := (show ObjOk X.prog X.w H1 s1.heap a (XO a (.ref C) (some dd)) from I1.hok a _ ea)
    have hx : ObjOk X.prog X.w H1 s1.heap dd (.xd fs) := I1.hok dd _ ed
    obtain ⟨mA, hns, hr⟩ := hx
    obtain ⟨od, hod, hl⟩ := lookIn_ns hns
    obtain ⟨u, hu, ru⟩ := RelO.some_of (v := v) (o := mA f) (by rw [← l]; exact hr f)
    have J : PySem.W.InstAt s1.heap a oe C (some od) := ⟨ho, hz.1, by unfold PySem.W.notCls; rw [hv] <;> rfl, by rw [hz.2]; exact hod⟩
    exact HandSPX.exc_get I1.kIn J c.hg c.hk c.hs (PySem.W.findObj_own c.hd n rfl (by rw [hl, hu])) (handed_of ru) ⟨v, H1, I1.tok _, ru, q⟩
theorem ei_fld {f : String} (O : POk X.K P) (ha : EI X W e fa) (hb : attributeBase e (Str.ofString f) X.env (eval e X.env) = eval e X.env := by rfl) : EI X W (.Attribute e (Str.ofString f) pos) (eFld P fa f) := by
  refine peI (pe_attr ha hb) fun σ H Q ⟨env, G, m, st, er, S, w⟩ => ?_
  refine ⟨env, G, m, st, er, S, w.bnd.imp fun x st1 G1 m1 H1 t1 S1 w1 v rv => ?_⟩
  have key : ∀ {a dx : Addr} {C : String} {ns : List String} {vs : List V} {xs : List D} {z : D}, H1 a = some (.ins (gaC X.K C) dx (fsV ns vs)) → RpL X.K m1 st1.length G1 vs xs → attrD P C f ns xs = some z → (∀ w, Rp X.K m1 st1.length G1 w z → Q w H1) →
      (∃ a' C dx fs v, V.ref a = .ref a' ∧ H1 a' = some (.ins C dx fs) ∧ Cls X.K C ∧ NoAttr X.K C (Str.ofString f) ∧ fs.lookup (Str.ofString f) = some v ∧ Q v H1) ∨
      (∃ a' C dx fs v u, V.ref a = .ref a' ∧ H1 a' = some (.ins C dx fs) ∧ Cls X.K C ∧ Con X.K C (Str.ofString f) v u ∧ fs.lookup (Str.ofString f) = none ∧ Q v H1) := by
    intro a dx C ns vs xs z ha rl ez q
    unfold attrD at ez
    split at ez
    · rename_i hC
      have hC := (O.own C hC).1
      split at ez
      · rename_i hf
        obtain ⟨u, h1, h2⟩ := fsV_lookup rl ez
        exact .inl ⟨a, _, dx, _, u, rfl, ha, hC, O.fld _ hf, h1, q u h2⟩
      · split at ez
        · cases ez
        · rename_i hn
          obtain ⟨i, rfl, hm⟩ := conD_mem ez
          obtain ⟨t, hc⟩ := O.con _ hm
          exact .inr ⟨a, _, dx, _, _, _, rfl, ha, hC, hc, fsV_none hn, q _ (.int i)⟩
    · cases ez
  split at w1
  · rename_i C fs xs
    unfold R.of at w1
    split at w1
    · rename_i z ez
      cases rv with
      | obj h1 h2 h3 =>
        rcases key (S1.ex _ _ h1) h3 ez (fun w r => w1.now S1 w r) with h | h
        · exact .inl h
        · exact .inr (.inl h)
    · exact w1.elim
  · rename_i C fs xs
    split at w1
    · rename_i hc
      unfold R.of at w1
      split at w1
      · rename_i z ez
        cases rv with
        | exn h1 h2 h3 =>
          obtain ⟨hl, h2⟩ := h2
          rcases h2 with h2 | ⟨dx, gs, rfl, hx, h4⟩
          · subst h2
            cases xs <;> simp [fldD] at ez
          · rename_i a vs
            have : ∃ j : Nat, fs[j]? = some f ∧ ∃ v, vs[j]? = some v ∧ Rp X.K m1 st1.length G1 v z := by
              exact fldD_at h3 ez
            obtain ⟨j, e1, v, e2, r3⟩ := this
            exact .inr (.inr ⟨a, _, dx, gs, v, rfl, S1.ex _ _ h1, O.exc _ hc.1, O.fld _ hc.2, S1.ex _ _ hx, h4 j f v e1 e2, w1.now S1 v r3⟩)
      · exact w1.elim
    · exact w1.elim
  · split at w1
    · rename_i n C fs xs q
      unfold R.of at w1
      split at w1
      · rename_i z ez
        cases rv with
        | ref hn =>
          obtain ⟨_, dx, vs, hv, hl, rl⟩ := S1.at_ _ _ q
          rcases key hv (rl.up (Same.refl _)) ez (fun w r => w1.now S1 w r) with h | h
          · exact .inl h
          · exact .inr (.inl h)
      · exact w1.elim
    · exact w1.elim
  · exact w1.elim
end
end Cb

set_option Elab.async false
set_option linter.all false
set_option maxRecDepth 100000
set_option maxHeartbeats 4000000
/-! CbSt2: statements. -/
namespace Cb
open PySem PySem.Spec PyProof.Rows L2

/-- where a statement leads -/
def WS (K : PySem.W.Frag) (G : Hp) (m : Nat → Addr) (n : Nat) (r : RS) (P : Fl → Sto → Hp → (Nat → Addr) → Hp → Prop) (E : WX) : Prop := match r with
  | .ok a st' => ∀ G' m' H', Tr G m n G' m' st'.length → SR K G' m' st' H' → P a st' G' m' H'
  | .exc C fs xs env st' => ∀ dd vs σ G' m' H', Tr G m n G' m' st'.length → SR K G' m' st' H' → XF1 G' dd fs vs → RpL K (fun _ => 0) 0 G' vs xs → ER K m' st'.length G' σ env → E (.ref (gaC K C)) dd σ H'
  | .bad => False
/-- a statement's ends, by values -/
def flP (K : PySem.W.Frag) (D : Ends) : Fl → Sto → Hp → (Nat → Addr) → Hp → Prop
  | .nx env, st, G, m, H => ∀ σ, ER K m st.length G σ env → D.nx σ H
  | .rt d, st, G, m, H => ∀ v, Rp K m st.length G v d → D.rt v H
  | .bk env, st, G, m, H => ∀ σ, ER K m st.length G σ env → D.bk σ H
  | .ct env, st, G, m, H => ∀ σ, ER K m st.length G σ env → D.ct σ H
section
variable {K : PySem.W.Frag} {G G' H : Hp} {m m' : Nat → Addr} {n n' : Nat} {r : RS} {P P' : Fl → Sto → Hp → (Nat → Addr) → Hp → Prop} {E : WX}
theorem WS.from (t : Tr G m n G' m' n') (h : WS K G m n r P E) : WS K G' m' n' r P E := by
  cases r with
  | ok a st => exact fun G2 m2 H2 t2 S => h G2 m2 H2 (t.trans t2) S
  | exc C fs xs env st => exact fun dd vs σ G2 m2 H2 t2 S => h dd vs σ G2 m2 H2 (t.trans t2) S
  | bad => exact h
theorem WS.now {fl : Fl} {st : Sto} (h : WS K G m st.length (.ok fl st) P E) (S : SR K G m st H) : P fl st G m H := h G m H Tr.refl S
theorem WS.imp (h : WS K G m n r P E) (i : ∀ a st' G' m' H', Tr G m n G' m' st'.length → SR K G' m' st' H' → P a st' G' m' H' → P' a st' G' m' H') : WS K G m n r P' E := by
  cases r with
  | ok a st => exact fun G2 m2 H2 t2 S => i _ _ _ _ _ t2 S (h G2 m2 H2 t2 S)
  | exc C fs xs env st => exact h
  | bad => exact h
theorem WS.st {α : Type} {a : R α} {env : Env} {k : α → Sto → RS} {σ : St} (er : ER K m n G σ env) (h : WS K G m n (a.st env k) P E) : Wp K G m n a (fun x st' G' m' _ => WS K G' m' st'.length (k x st') P E) fun c dd H' => E c dd σ H' := by
  cases a with
  | ok x st => exact fun G2 m2 H2 t2 S => WS.from t2 h
  | exc C fs xs st => exact fun dd vs G2 m2 H2 t2 S x r => h dd vs σ G2 m2 H2 t2 S x r (er.tr t2)
  | bad => exact h
end
def tS (K : PySem.W.Frag) (W : WX) (f : Sx) : TS := fun D σ H => ∃ env G m st, ER K m st.length G σ env ∧ SR K G m st H ∧ WS K G m st.length (f env st) (flP K D) W
abbrev SI (X : Cx) (W : WX) (s : Stmt) (f : Sx) : Prop := PS X s (tS X.K W f)
abbrev BI (X : Cx) (W : WX) (s : List Stmt) (f : Sx) : Prop := PSs X s (tS X.K W f)
theorem psI {X : Cx} {s : Stmt} {t t' : TS} (h : PS X s t) (i : ∀ D σ H, t' D σ H → t D σ H) : PS X s t' := ⟨fun pins s σ H D I q => h.run pins s σ H D I (i D σ H q)⟩
theorem pssI {X : Cx} {s : List Stmt} {t t' : TS} (h : PSs X s t) (i : ∀ D σ H, t' D σ H → t D σ H) : PSs X s t' := ⟨fun pins s σ H D I q => h.run pins s σ H D I (i D σ H q)⟩

/-! ### targets -/
def tG (K : PySem.W.Frag) (vs : List Nat) (f : Gx) : TG := fun v σ H Q => ∃ env G m st d env', ER K m st.length G σ env ∧ SR K G m st H ∧ Rp K m st.length G v d ∧ f d env = some env' ∧ ∀ σ', ER K m st.length G σ' env' → wipe σ' vs = wipe σ vs → Q σ' H
def tGs (K : PySem.W.Frag) (vs : List Nat) (f : List D → Env → Option Env) : TGs := fun us σ H Q => ∃ env G m st ds env', ER K m st.length G σ env ∧ SR K G m st H ∧ RpL K m st.length G us ds ∧ f ds env = some env' ∧ ∀ σ', ER K m st.length G σ' env' → wipe σ' vs = wipe σ vs → Q σ' H
abbrev GI (X : Cx) (vs : List Nat) (e : Expr) (f : Gx) : Prop := PG X e (tG X.K vs f)
abbrev GsI (X : Cx) (vs : List Nat) (es : List Expr) (f : List D → Env → Option Env) : Prop := PGs X es (tGs X.K vs f)
theorem pgI {X : Cx} {e : Expr} {t t' : TG} (h : PG X e t) (i : ∀ v σ H Q, t' v σ H Q → t v σ H Q) : PG X e t' := ⟨fun pins s σ H v u Q I r q => h.run pins s σ H v u Q I r (i v σ H Q q)⟩
theorem pgsI {X : Cx} {e : List Expr} {t t' : TGs} (h : PGs X e t) (i : ∀ v σ H Q, t' v σ H Q → t v σ H Q) : PGs X e t' := ⟨fun pins s σ H v u Q I r q => h.run pins s σ H v u Q I r (i v σ H Q q)⟩
theorem wipe_set {σ : St} {i : Nat} {o : Option V} : ∀ {vs : List Nat}, i ∈ vs → wipe (σ.set i o) vs = wipe σ vs
  | [], h => absurd h (by simp)
  | v :: vs, h => by
    unfold wipe
    by_cases hv : i ∈ vs
    · rw [wipe_set hv]
    · have e : v = i := by
        rcases List.mem_cons.mp h with h | h
        · exact h.symm
        · exact absurd h hv
      subst e
      have key : ∀ (vs : List Nat), wipe (σ.set v o) vs = (wipe σ vs).set v o ∨ wipe (σ.set v o) vs = wipe σ vs := by
        intro vs
        induction vs with
        | nil => exact .inl rfl
        | cons w ws ih =>
          unfold wipe
          by_cases hw : w = v
          · subst hw
            right
            rcases ih with ih | ih
            · rw [ih, List.set_set]
            · rw [ih]
          · rcases ih with ih | ih
            · left
              rw [ih, List.set_comm _ _ (Ne.symm hw)]
            · right
              rw [ih]
      rcases key vs with h | h
      · rw [h, List.set_set]
      · rw [h]
section
variable {X : Cx} {W : WX} {vs : List Nat} {pos : Pos}
theorem gi_name (i : Nat) {x : Str} (hN : X.N.Nodup) (hi : X.N[i]? = some x := by rfl) (hx : Loc X.env.scope x := by first | exact Or.inl rfl | exact Or.inr rfl) (hv : i ∈ vs := by decide) (hf : X.fn x = true ∨ X.env.scope.names.lookup x = some .local := by first | exact .inl rfl | exact .inr rfl | assumption) : GI X vs (.Name x pos) (gName i) := by
  refine pgI (pg_name hN hi hx hf) fun v σ H Q ⟨env, G, m, st, d, env', er, S, r, e, q⟩ => ?_
  cases e
  exact q _ (er.set i r) (wipe_set hv)
theorem gsi_nil : GsI X vs [] gNil := by
  refine pgsI pgs_nil fun us σ H Q ⟨env, G, m, st, ds, env', er, S, r, e, q⟩ => ?_
  unfold gNil at e
  cases ds with
  | nil =>
    cases r
    cases e
    exact ⟨rfl, q _ er rfl⟩
  | cons d ds => cases e
theorem gsi_cons {e : Expr} {es : List Expr} {f : Gx} {g : List D → Env → Option Env} (h1 : GI X vs e f) (h2 : GsI X vs es g)
    (hs : (assignEach (e :: es) X.env).map (·.2) = assign e X.env :: (assignEach es X.env).map (·.2) := by rfl) : GsI X vs (e :: es) (gCons f g) := by
  refine pgsI (pgs_cons h1 h2 hs) fun us σ H Q ⟨env, G, m, st, ds, env', er, S, r, e, q⟩ => ?_
  cases ds with
  | nil => cases e
  | cons d ds =>
    cases r with
    | @cons v us _ _ r1 r2 =>
      have e' : (f d env).bind (g ds) = some env' := e
      cases h : f d env with
      | none => rw [h] at e'; cases e'
      | some env1 =>
        rw [h] at e'
        refine ⟨v, us, rfl, env, G, m, st, d, env1, er, S, r1, h, fun σ1 er1 w1 => ?_⟩
        exact ⟨env1, G, m, st, ds, env', er1, S, r2, e', fun σ2 er2 w2 => q σ2 er2 (w2.trans w1)⟩
theorem gi_tup {es : List Expr} {k : Nat} {g : List D → Env → Option Env} (n : Nat) (hc : X.calm = true) (h : GsI X vs es g) (hg : ∀ ds env env', g ds env = some env' → ds.length = n)
    (hn : (assignEach es X.env).length = n := by rfl) (hst : (assignEach es X.env).findIdx? (·.1) = none := by rfl) : GI X vs (.Tuple es k pos) (gTup g) := by
  refine pgI (pg_tup hc h hn hst) fun v σ H Q ⟨env, G, m, st, d, env', er, S, r, e, q⟩ => ?_
  unfold gTup at e
  split at e
  · rename_i ds
    cases r with
    | tup h1 h2 => exact ⟨_, _, rfl, same_t S.ex h1, by rw [h2.length]; exact hg _ _ _ e, env, G, m, st, ds, env', er, S, h2, e, q⟩
  · cases e
theorem len_nil : ∀ ds env env', gNil ds env = some env' → ds.length = 0 := fun ds env env' e => by
  cases ds with
  | nil => rfl
  | cons d ds => cases e
theorem len_cons {f : Gx} {g : List D → Env → Option Env} {n : Nat} (h : ∀ ds env env', g ds env = some env' → ds.length = n) : ∀ ds env env', gCons f g ds env = some env' → ds.length = n + 1 := fun ds env env' e => by
  cases ds with
  | nil => cases e
  | cons d ds =>
    have e' : (f d env).bind (g ds) = some env' := e
    cases hf : f d env with
    | none => rw [hf] at e'; cases e'
    | some env1 =>
      rw [hf] at e'
      rw [List.length_cons, h _ _ _ e']
end

/-! ### statements -/
section
variable {X : Cx} {W : WX} {a b c e : Expr} {es : List Expr} {fa fb fc : Ex} {pos p : Pos} {P : Pg} {s : Stmt} {ss ss' : List Stmt} {f g : Sx}
theorem bi_nil : BI X W [] sNil := by
  refine pssI pss_nil fun D σ H ⟨env, G, m, st, er, S, w⟩ => ?_
  exact (show WS X.K G m st.length (.ok (.nx env) st) _ _ from w).now S σ er
theorem seq_key {K : PySem.W.Frag} {D : Ends} {σ : St} {H : Hp} (h : tS K W (sSeq f g) D σ H) : tS K W f { D with nx := tS K W g D } σ H := by
  obtain ⟨env, G, m, st, er, S, w⟩ := h
  refine ⟨env, G, m, st, er, S, ?_⟩
  unfold sSeq at w
  cases h : f env st with
  | ok fl st1 =>
    rw [h] at w
    cases fl with
    | nx env1 => exact fun G1 m1 H1 t1 S1 σ1 er1 => ⟨env1, G1, m1, st1, er1, S1, WS.from t1 w⟩
    | rt d => exact w
    | bk env1 => exact w
    | ct env1 => exact w
  | exc C fs xs env1 st1 =>
    rw [h] at w
    exact w
  | bad =>
    rw [h] at w
    exact w
theorem bi_cons (h1 : SI X W s f) (h2 : BI X W ss g) : BI X W (s :: ss) (sSeq f g) := pssI (pss_cons h1 h2) fun _ _ _ h => seq_key h
theorem bi_one (h1 : SI X W s f) : BI X W [s] f := pss_one h1
theorem si_bad : SI X W s sBad := ⟨fun _ _ _ _ _ _ ⟨_, _, _, _, _, _, w⟩ => w.elim⟩
theorem bi_bad : BI X W ss sBad := ⟨fun _ _ _ _ _ _ ⟨_, _, _, _, _, _, w⟩ => w.elim⟩
theorem ei_bad : EI X W e eBad := ⟨fun _ _ _ _ _ _ ⟨_, _, _, _, _, _, w⟩ => w.elim⟩
theorem si_pass : SI X W (.Pass pos) sNil := by
  refine psI ps_pass fun D σ H ⟨env, G, m, st, er, S, w⟩ => ?_
  exact (show WS X.K G m st.length (.ok (.nx env) st) _ _ from w).now S σ er
theorem si_break : SI X W (.Break pos) sBreak := by
  refine psI ps_break fun D σ H ⟨env, G, m, st, er, S, w⟩ => ?_
  exact (show WS X.K G m st.length (.ok (.bk env) st) _ _ from w).now S σ er
theorem si_cont : SI X W (.Continue pos) sCont := by
  refine psI ps_continue fun D σ H ⟨env, G, m, st, er, S, w⟩ => ?_
  exact (show WS X.K G m st.length (.ok (.ct env) st) _ _ from w).now S σ er
theorem si_if {t : Tx} (hc : TI' X W c t) (ha : BI X W ss f) (hb : BI X W ss' g) : SI X W (.If c ss ss' pos) (sIf t f g) := by
  refine psI (ps_if hc ha hb) fun D σ H ⟨env, G, m, st, er, S, w⟩ => ?_
  refine ⟨env, G, m, st, er, S, (WS.st er w).imp fun x st1 G1 m1 H1 t1 S1 w1 => ?_⟩
  cases x with
  | true =>
    rw [if_pos rfl] at w1 ⊢
    exact ⟨env, G1, m1, st1, er.tr t1, S1, w1⟩
  | false =>
    rw [if_neg Bool.false_ne_true] at w1 ⊢
    exact ⟨env, G1, m1, st1, er.tr t1, S1, w1⟩
theorem si_ret (ha : EI X W e fa) : SI X W (.Return (some e) pos) (sRet fa) := by
  refine psI (ps_ret ha) fun D σ H ⟨env, G, m, st, er, S, w⟩ => ?_
  exact ⟨env, G, m, st, er, S, (WS.st er w).imp fun x st1 G1 m1 H1 t1 S1 w1 => w1.now S1⟩
theorem si_retN : SI X W (.Return none pos) (sRet (eC .non)) := by
  refine psI ps_retN fun D σ H ⟨env, G, m, st, er, S, w⟩ => ?_
  exact ((show WS X.K G m st.length (.ok (.rt .non) st) _ _ from w).now S) _ .non
theorem si_drop (ha : EI X W e fa) (hs : swapsWith e none pos.line X.env = pure false := by rfl) : SI X W (.Expr e pos) (sDrop fa) := by
  refine psI (ps_expr ha hs) fun D σ H ⟨env, G, m, st, er, S, w⟩ => ?_
  exact ⟨env, G, m, st, er, S, (WS.st er w).imp fun x st1 G1 m1 H1 t1 S1 w1 _ _ => w1.now S1 σ (er.tr t1)⟩
theorem asg_key {vs : List Nat} {g : Gx} {K : PySem.W.Frag} {D : Ends} {σ : St} {H : Hp} (h : tS K W (sAsg fa g) D σ H) : tE K W fa σ H fun x H1 => tG K vs g x σ H1 D.nx := by
  obtain ⟨env, G, m, st, er, S, w⟩ := h
  refine ⟨env, G, m, st, er, S, (WS.st er w).imp fun x st1 G1 m1 H1 t1 S1 w1 v rv => ?_⟩
  split at w1
  · rename_i env1 h
    exact ⟨env, G1, m1, st1, x, env1, er.tr t1, S1, rv, h, fun σ' er' _ => w1.now S1 σ' er'⟩
  · exact w1.elim
/-- name = e -/
theorem si_set (i : Nat) {x : Str} {pos' : Pos} (hN : X.N.Nodup) (ha : EI X W e fa) (hi : X.N[i]? = some x := by rfl) (hx : Loc X.env.scope x := by first | exact Or.inl rfl | exact Or.inr rfl) (hs : swapsWith e (some (.Name x pos')) pos.line X.env = pure false := by rfl) (hf : X.fn x = true ∨ X.env.scope.names.lookup x = some .local := by first | exact .inl rfl | exact .inr rfl | assumption) :
    SI X W (.Assign [.Name x pos'] e pos) (sAsg fa (gName i)) := by
  refine psI (ps_set hN hi hx ha hs hf) fun D σ H ⟨env, G, m, st, er, S, w⟩ => ?_
  refine ⟨env, G, m, st, er, S, (WS.st er w).imp fun x st1 G1 m1 H1 t1 S1 w1 v rv => ?_⟩
  exact (show WS X.K G1 m1 st1.length (.ok (.nx (env.set i (some x))) st1) _ _ from w1).now S1 _ ((er.tr t1).set i rv)
/-- target = e -/
theorem si_asg {vs : List Nat} {tg : Expr} {g : Gx} (ha : EI X W e fa) (hg : GI X vs tg g) (hs : swapsWithSole [tg] e pos.line X.env = pure false := by rfl) (hw : swappedStores [tg] e X.env = pure none := by rfl)
    (h1 : (assignEach [tg] X.env).map (·.2) = [assign tg X.env] := by rfl) : SI X W (.Assign [tg] e pos) (sAsg fa g) :=
  psI (ps_asg ha hg hs hw h1) fun _ _ _ h => asg_key h
theorem frz_ok {i : Nat} {env : Env} {st st1 : Sto} {fl : Fl} (h : sFrz i env st = .ok fl st1) : ∃ n xs, env[i]? = some (some (.ref n)) ∧ st[n]? = some (.lst xs) ∧ fl = .nx (env.set i (some (.lst xs))) ∧ st1 = st.set n .dead := by
  unfold sFrz at h
  split at h
  · rename_i n hi
    split at h
    · rename_i xs hn
      cases h
      exact ⟨n, xs, hi, hn, rfl, rfl⟩
    · cases h
  · cases h
theorem frz_exc {i : Nat} {env env1 : Env} {st st1 : Sto} {C : String} {fs : List String} {xs : List D} (h : sFrz i env st = .exc C fs xs env1 st1) : False := by
  unfold sFrz at h
  split at h
  · split at h
    · cases h
    · cases h
  · cases h
/-- from here on the list in slot i is built no further -/
theorem bi_frz (i : Nat) (h : BI X W ss f) : BI X W ss (sSeq (sFrz i) f) := by
  refine pssI h fun D σ H ⟨env, G, m, st, er, S, w⟩ => ?_
  unfold sSeq at w
  cases hf : sFrz i env st with
  | bad =>
    rw [hf] at w
    exact w.elim
  | exc C fs xs env1 st1 => exact (frz_exc hf).elim
  | ok fl st1 =>
    rw [hf] at w
    obtain ⟨n, xs, hi, hn, rfl, rfl⟩ := frz_ok hf
    obtain ⟨v, h1, h2⟩ := er.2 i _ hi
    cases h2 with
    | ref hl =>
      obtain ⟨G', t, S', r⟩ := S.frz hn
      refine ⟨_, G', m, _, ?_, S', WS.from t w⟩
      have er' := er.tr t
      refine ⟨by rw [List.length_set]; exact er'.1, fun j d e => ?_⟩
      by_cases hj : j = i
      · subst hj
        have hlt : j < env.length := (List.getElem?_eq_some_iff.mp hi).1
        rw [List.getElem?_set_self hlt] at e
        cases e
        exact ⟨_, h1, r _⟩
      · rw [List.getElem?_set_ne (Ne.symm hj)] at e
        exact er'.2 j d e
end
end Cb

set_option Elab.async false
set_option linter.all false
set_option maxRecDepth 100000
set_option maxHeartbeats 4000000
/-! CbEnum: enumerate over a tuple. -/
namespace PySem
open Sem (wp)
set_option maxHeartbeats 1000000 in
theorem meets_enumT {v : Value} {o : Obj} {H : Heap → Prop} (B : Begins v o H) :
    Meets (Builtin.«enumerate.__new__» ⟨[.type "enumerate", v], []⟩) (fun _ R s => H s.heap ∧
      R (.ok (.ret (.ref (s.heap.push o).objs.size))) { s with heap := (s.heap.push o).push { cls := .type "enumerate", data := .fields #[.none, .bool false, .ref s.heap.objs.size, rawInt 0, .none, .none] } }) :=
  .of_wp fun prog w A R s h => by
    obtain ⟨hp, g, d, tk, os⟩ := s
    obtain ⟨h1, h⟩ := h
    have hsub := sub_enumerate
    have q1 : ∀ {A' : Around} {E : Value → Shared → Prop} {Q : Value → Shared → Prop}, Q (.ref hp.objs.size) ⟨hp.push o, g, d, tk, os⟩ → wpAny (model prog w) A' (pyIter v) Q E ⟨hp, g, d, tk, os⟩ :=
      fun q => B.iter prog w _ _ ⟨hp, g, d, tk, os⟩ _ h1 q
    wp_walk using q1
    refine wpAny_stack_any fun st => wpAny_pure ?_
    split
    · rename_i c _ _ _ _ _
      cases (c == Value.type "enumerate")
      · wp_walk using q1
        exact ⟨_, rfl, h⟩
      · wp_walk using q1
        exact ⟨_, rfl, h⟩
    · wp_walk using q1
      exact ⟨_, rfl, h⟩
theorem enumT_begins {prog : Program} {w : World} {A : Around} {E : Value → Shared → Prop} {s : Shared} {v : Value} {o : Obj} {H : Heap → Prop} {Q : Value → Shared → Prop} (B : Begins v o H) (h1 : H s.heap)
    (h : ∀ h', IsEnum h' (s.heap.objs.size + 1) s.heap.objs.size 0 .none → h'.get? s.heap.objs.size = some o → h'.objs.size = s.heap.objs.size + 2 →
      (∀ b o, s.heap.get? b = some o → h'.get? b = some o) → Q (.ref (s.heap.objs.size + 1)) { s with heap := h' }) :
    wpAny (model prog w) A (call (.type "enumerate") [v]) Q E s := by
  refine callType_new F.called_enumerate (by decide) (F.typeCall_enumerate_1 _) (F.newCall_enumerate_1 _) (fun obj => F.args_object_init_2 obj _) F.entry_enumerate_new (meets_enumT B) ⟨h1, ?_⟩
  have hz : (s.heap.push o).objs.size = s.heap.objs.size + 1 := Heap.size_push ..
  show _ ∧ _
  rw [hz]
  have he : IsEnum ((s.heap.push o).push { cls := .type "enumerate", data := .fields #[.none, .bool false, .ref s.heap.objs.size, rawInt 0, .none, .none] }) (s.heap.objs.size + 1) s.heap.objs.size 0 .none := by
    have := Heap.get?_push_size (s.heap.push o) (o := { cls := .type "enumerate", data := .fields #[.none, .bool false, .ref s.heap.objs.size, rawInt 0, .none, .none] }) rfl
    rw [hz] at this
    exact this
  exact ⟨⟨_, he, rfl⟩, h _ he (Heap.get?_push_of_some _ (Heap.get?_push_size _ B.free)) (by rw [Heap.size_push, hz]) fun b o x => Heap.get?_push_of_some _ (Heap.get?_push_of_some _ x)⟩
end PySem
namespace Cb
open PySem PySem.Spec PyProof.Rows L2
def Itet (K : PySem.W.Frag) (a : Addr) : It :=
  ⟨fun i H => ∃ (xs : List V) (x : V), SqT K H a xs ∧ xs[i]? = some x, fun i H v H' => ∃ T x, v = .ref T ∧ H T = none ∧ H' = upd H T (.tup [.int (i : Nat), x]) ∧ ∀ xs, SqT K H a xs → xs[i]? = some x, fun i H => ∃ xs : List V, SqT K H a xs ∧ xs.length ≤ i⟩
theorem turn_enumT {P : Program} {w : World} {K : PySem.W.Frag} {elts : List Expr} {kk : Nat} {tpos : Pos} (a e it : Addr) (na : a ≠ e) (nb : a ≠ it) :
    Turn P w K (.Tuple elts kk tpos) (Itet K a) [e, it] e (fun i h => (∃ old, IsEnum h e it ((i : Nat) : Int) old) ∧ h.IsTupleIter it a i ∧ e ≠ it) where
  mem := by simp
  obj := fun i h st b hb => by
    obtain ⟨⟨old, he⟩, ⟨o, ho, hc, hd⟩, _⟩ := st
    have e' : b = e ∨ b = it := by simpa using hb
    rcases e' with z | z
    · rw [z]; exact ⟨_, he, fun v q => nomatch q⟩
    · rw [z]; exact ⟨o, ho, fun v q => by rw [hd] at q; cases q⟩
  keep := fun i h h' st k => let ⟨⟨old, he⟩, hi, hne⟩ := st; ⟨⟨old, k e (by simp) _ he⟩, hi.at fun o q => k it (by simp) o q, hne⟩
  item := by
    intro X hP hw hK hc i pins s σ H E I hf st hg
    subst hP hw hK
    obtain ⟨⟨old, he⟩, hit, hne⟩ := st
    obtain ⟨xs, x, hq, hx⟩ := hg
    obtain ⟨its, rv, p, hz⟩ := I.tuple hq
    obtain ⟨u, hu, ru⟩ := rv.get hx
    have hel : e < s.heap.objs.size := Heap.lt_size he
    have hil : it < s.heap.objs.size := by obtain ⟨_, q, _⟩ := hit; exact Heap.lt_size q
    have hpt : s.heap.IsTuple a its.toArray := p
    have hul : i < its.toArray.size := by
      have := (List.getElem?_eq_some_iff.mp hu).1
      simpa using this
    have D := Draws.tuple (prog := X.prog) (w := X.w) (A := X.A.in1) (show X.A.in1.handled = none from I.ok.hd hc) it a nb its.toArray
    refine wpAny_pyNext_enum_itemD D he ⟨hit, hpt⟩ hul hne (by simp [hne, Ne.symm na]) fun x' h' tk hpx ho hst' hT hsz hk => ?_
    have hxu : x' = u := by
      have h1 : its[i]? = some x' := by simpa using hpx
      rw [hu] at h1
      exact (Option.some.inj h1).symm
    subst hxu
    refine ⟨_, rfl, wpAny_letOwnedTupleGo_enum (s := { s with heap := h', toks := tk + 1 }) ho fun h'' he' sb => ?_⟩
    have hT2 : h''.get? s.heap.objs.size = some { cls := .type "tuple", data := .seq #[.int i tk, x'] } := (sb.2 _ (Nat.ne_of_gt hel)).trans hT
    have new : ObjOk X.prog X.w (upd H s.heap.objs.size (.tup [.int (i : Nat), x])) h'' s.heap.objs.size (.tup [.int (i : Nat), x]) :=
      ⟨by show 2 ≤ sizeLine; decide, [.int i tk, x'], .cons ⟨_, rfl⟩ (.cons ru .nil), ⟨_, hT2, rfl, _, rfl⟩⟩
    have I1 : Inv X pins σ (upd H s.heap.objs.size (.tup [.int (i : Nat), x])) { s with heap := h'', toks := tk + 1 } :=
      I.turnedNew (ch := [e, it]) (fun b ob hb q => (sb.2 b (fun z => hb (by simp [z]))).trans (hk b ob (fun z => hb (by simp [z])) (fun z => hb (by simp [z])) q)) hf (Nat.le_refl _) new
    refine ⟨.ref s.heap.objs.size, _, I1, rfl, ⟨_, x, rfl, I.hok.fresh (Nat.le_refl _), rfl, fun ys hy => by rw [I.tuple_inj hy hq]; exact hx⟩, ⟨⟨x', ?_⟩, hst'.1.at fun o q => (sb.2 it (Ne.symm hne)).trans q, hne⟩, fun b hb => ?_⟩
    · have e1 : ((i + 1 : Nat) : Int) = (i : Int) + 1 := by omega
      rw [e1]; exact he'
    · have hb' : b < s.heap.objs.size := by
        have e' : b = e ∨ b = it := by simpa using hb
        rcases e' with z | z
        · rw [z]; exact hel
        · rw [z]; exact hil
      rw [upd_ne (Nat.ne_of_lt hb')]
      exact (hf b hb).1
  done := by
    intro X hP hw hK hc i pins s σ H E I hf st hg
    subst hP hw hK
    obtain ⟨⟨old, he⟩, hit, hne⟩ := st
    obtain ⟨xs, hq, hx⟩ := hg
    obtain ⟨its, rv, p, hz⟩ := I.tuple hq
    obtain ⟨f0, f1, f2, f3, f4, f5⟩ := hf it (by simp)
    have hl := rv.length
    have hpt : s.heap.IsTuple a its.toArray := p
    have hh : X.A.in1.handled = none := I.ok.hd hc
    unfold pyNext
    refine wpAny_bind (wpAny_attempt (wpAny_callSpecial?_slot (name := Str.ofString "__next__") (show s.TypeIs (.ref e) "enumerate" from ⟨_, he, rfl⟩) F.slot_enumerate_next
      (wpAny_call_entry F.slot_enumerate_next ⟨_, he, rfl⟩ F.entry_enumerate_next ?_ (F.args_enumerate_next_1 _))))
    show wpAny _ _ (field (.ref e) 2 >>= _) _ _ _
    refine wpAny_bind (wpAny_field he rfl (x := .ref it) rfl ?_)
    refine wpAny_bind (wpAny_nextOf_tuple_end hh hit hpt (by simp; omega) fun h' x he' hx' => ?_)
    obtain ⟨o, ho, hc⟩ := hx'
    refine wpAny_bind (wpAny_isInstance (T := "StopIteration") (b := true) ⟨o, ho, hc⟩ isSubtype_stop ?_)
    exact wpAny_pure ⟨rfl, I.turned (t' := s.toks) (fun b o hb q => he' b o hb q) f0 f1 f3 f4 f5⟩
  self := fun A i s Q E st h => let ⟨⟨_, he⟩, _⟩ := st; wpAny_pyIter_enum he h
def iEnumT (K : PySem.W.Frag) (ta : TA) : TI := fun σ H R => ta σ H fun vs H1 => ∃ a xs, vs = [.ref a] ∧ SqT K H1 a xs ∧ R (Itet K a) H1
theorem pi_enumT {X : Cx} {e : Expr} {ta : TA} {p pos tpos : Pos} {elts : List Expr} {kk : Nat} (hg : Gl X "enumerate") (hm : X.mg "enumerate" = none) (ha : PA X [e] ta) (hs : starEach [e] X.env = [(false, eval e X.env)] := by rfl) :
    PI X (.Tuple elts kk tpos) (.Call (.Name "enumerate" p) [e] [] pos) (iEnumT X.K ta) := by
  refine ⟨fun pins s σ H R I h => ?_⟩
  refine Call_ (ld_blt I hg hm boot_enumerate (PyProof.Rows.callWith_type1 (thn (ha.run pos pins s σ H _ I h) fun us s1 ⟨vs, H1, I1, r1, q1⟩ => ?_) hs rfl))
  obtain ⟨a, xs, ex, hq, q⟩ := q1
  subst ex
  cases r1 with
  | cons r rr =>
    cases rr
    cases r
    obtain ⟨its, rv, p', hz⟩ := I1.tuple hq
    have hpt : s1.heap.IsTuple a its.toArray := p'
    have hal : a < s1.heap.objs.size := by obtain ⟨o, ho, _⟩ := hpt; exact Heap.lt_size ho
    refine enumT_begins (begins_tuple a its.toArray) hpt fun h' he hit hsz hk => wpAny_pyIter_enum he ?_
    have I2 : Inv X pins σ H1 { s1 with heap := h' } := I1.kept (t' := s1.toks) hk
    refine ⟨s1.heap.objs.size + 1, [s1.heap.objs.size + 1, s1.heap.objs.size], _, _, H1, rfl, I2, turn_enumT a (s1.heap.objs.size + 1) s1.heap.objs.size (Nat.ne_of_lt (Nat.lt_succ_of_lt hal)) (Nat.ne_of_lt hal), ⟨⟨.none, he⟩, ⟨_, hit, rfl, rfl⟩, Nat.succ_ne_self _⟩, fun b hb => ?_, q⟩
    have e' : b = s1.heap.objs.size + 1 ∨ b = s1.heap.objs.size := by simpa using hb
    have hle : s1.heap.objs.size ≤ b := by
      rcases e' with z | z
      · rw [z]; exact Nat.le_add_right _ _
      · rw [z]; exact Nat.le_refl _
    exact I1.fpOk hle (I1.hok.fresh hle)
end Cb

set_option Elab.async false
set_option linter.all false
set_option maxRecDepth 100000
set_option maxHeartbeats 4000000
/-! CbSt3: append, stores, loops, comprehensions. -/
namespace Cb
open PySem PySem.Spec PyProof.Rows L2

section
variable {X : Cx} {W : WX} {a b c e : Expr} {es : List Expr} {fa fb fc : Ex} {pos p : Pos} {P : Pg} {s : Stmt} {ss ss' : List Stmt} {f g : Sx}
/-- xs.append(e), xs in slot i -/
theorem si_app (i : Nat) {o : Expr} {apos cpos : Pos} (ho : EI X W o (eVar i)) (ha : EI X W e fa)
    (hbase : attributeBase o "append" X.env (eval o X.env) = eval o X.env := by rfl)
    (hfew : ((backTo cpos (starEach [e] X.env)).all (fun x => !x.1) && (backToKw cpos (keywordEach [] X.env)).all (fun x => x.1.isSome)
      && decide ([e].length + ([] : List Keyword).length + (if ([] : List Keyword).isEmpty then 0 else 1) < 30)) = true := by rfl)
    (hline : (apos.endLine == cpos.line) = true := by rfl) (hs1 : starEach [e] X.env = (false, eval e X.env) :: starEach [] X.env := by rfl) (hplain : (backTo cpos (starEach [] X.env)).any (·.1) = false := by rfl)
    (hs : swapsWith (.Call (.Attribute o "append" apos) [e] [] cpos) none pos.line X.env = pure false := by rfl) : SI X W (.Expr (.Call (.Attribute o "append" apos) [e] [] cpos) pos) (sApp i fa) := by
  refine psI (ps_expr (pe_bm PySem.F.plainAttrs_list PySem.F.slot_list_append PySem.F.type_list_append mt_append ho (ai_cons ha ai_nil hs1) hbase hfew hline hs1 hplain) hs) fun D σ H ⟨env, G, m, st, er, S, w⟩ => ?_
  refine ⟨env, G, m, st, er, S, ?_⟩
  unfold sApp at w
  unfold eVar
  split at w
  · rename_i n hi
    split at w
    · rename_i xs hn
      rw [hi]
      refine fun G1 m1 H1 t1 S1 v rv => ?_
      cases rv with
      | ref hl =>
        obtain ⟨_, vs, hv, rl⟩ := S1.at_ _ _ hn
        refine ⟨.inl ⟨rfl, vs, SqL.of hv⟩, env, G1, m1, st, er.tr t1, S1, ?_⟩
        have w1 := WS.st (er.tr t1) (WS.from t1 w)
        unfold aCons
        have key : Wp X.K G1 m1 st.length (fa env st) (fun d st2 G2 m2 H2 => ∀ v, Rp X.K m2 st2.length G2 v d → rAppend (.ref (m1 n)) [v] H2 fun _ H3 => D.nx σ H3) fun c dd H' => W c dd σ H' := by
          refine w1.imp fun d st2 G2 m2 H2 t2 S2 w2 v rv => ?_
          split at w2
          · rename_i ys hm
            split at w2
            · rename_i hc
              obtain ⟨g2, us, hu, ru⟩ := S2.at_ _ _ hm
              rw [← t2.mm n hl]
              refine ⟨m2 n, us, v, rfl, rfl, hu, by rw [ru.length]; exact Nat.lt_of_lt_of_le hc.2 big, ?_⟩
              have S3 := S2.set (i := n) (o' := .lst (ys ++ [d])) (u := .lst (us ++ [v])) hm rfl ⟨g2, _, upd_same, ru.app (RpL.one (rv.gnd d v hc.1))⟩
              exact w2 G2 m2 _ S2.trSet S3 σ (((er.tr t1).tr t2).tr S2.trSet)
            · exact w2.elim
          · exact w2.elim
        cases hf : fa env st with
        | ok d st2 =>
          rw [hf] at key
          intro G2 m2 H2 t2 S2 vs rvs
          obtain ⟨v, rfl, rv⟩ := rp1 rvs
          exact key G2 m2 H2 t2 S2 v rv
        | exc C fs xs st2 =>
          rw [hf] at key
          exact key
        | bad =>
          rw [hf] at key
          exact key
    · exact w.elim
  · exact w.elim
/-- xs[k] = e, xs in slot i -/
theorem si_sets (i : Nat) {o k : Expr} {fk : Ex} {tpos : Pos} (ho : EI X W o (eVar i)) (hk : EI X W k fk) (ha : EI X W e fa)
    (hset : ∀ v, assign (.Subscript o k tpos) X.env v = (do
      let ov ← holding [v] (eval o X.env)
      let iv ← holding [v, ov] (eval k X.env)
      standAt tpos
      holding [v, ov, iv] (setItem ov iv v)
      release [v, ov, iv] []) := by intro _; rfl)
    (hs : swapsWithSole [.Subscript o k tpos] e pos.line X.env = pure false := by rfl) (hw : swappedStores [.Subscript o k tpos] e X.env = pure none := by rfl)
    (h1 : (assignEach [.Subscript o k tpos] X.env).map (·.2) = [assign (.Subscript o k tpos) X.env] := by rfl) : SI X W (.Assign [.Subscript o k tpos] e pos) (sSet i fk fa) := by
  refine psI (ps_asg ha (pg_sub ho hk set_list hset) hs hw h1) fun D σ H ⟨env, G, m, st, er, S, w⟩ => ?_
  refine ⟨env, G, m, st, er, S, (WS.st er w).imp fun d st1 G1 m1 H1 t1 S1 w1 v rv => ?_⟩
  refine ⟨env, G1, m1, st1, er.tr t1, S1, ?_⟩
  unfold eVar
  split at w1
  · rename_i n hi
    rw [hi]
    refine fun G2 m2 H2 t2 S2 u ru => ?_
    cases ru with
    | ref hl =>
      have er2 := (er.tr t1).tr t2
      refine ⟨env, G2, m2, st1, er2, S2, (WS.st er2 (WS.from t2 w1)).imp fun z st3 G3 m3 H3 t3 S3 w3 q rq => ?_⟩
      split at w3
      · rename_i j
        split at w3
        · rename_i xs hn
          split at w3
          · rename_i y hy
            split at w3
            · rename_i hg
              cases rq
              obtain ⟨g3, us, hu, rl⟩ := S3.at_ _ _ hn
              rw [← t3.mm n hl]
              refine ⟨m3 n, us, j, y, rfl, rfl, hu, by rw [rl.length]; exact hy, ?_⟩
              have rv3 := (rv.tr t2).tr t3
              have S4 := S3.set (i := n) (o' := .lst (xs.set y d)) (u := .lst (us.set y v)) hn rfl ⟨g3, _, upd_same, rl.setR y (rv3.gnd d v hg)⟩
              exact w3 G3 m3 _ S3.trSet S4 σ ((er2.tr t3).tr S3.trSet)
            · exact w3.elim
          · exact w3.elim
        · exact w3.elim
      · exact w3.elim
  · exact w1.elim
theorem putF_new {f : String} {v : V} : ∀ {fs : List String} {vs : List V}, fs.length = vs.length → f ∉ fs → putF (Str.ofString f) v (fsV fs vs) = fsV (fs ++ [f]) (vs ++ [v])
  | [], [], _, _ => rfl
  | g :: fs, u :: vs, h, hn => by
    have ne : Str.ofString g ≠ Str.ofString f := fun z => hn (by rw [ofs_inj z]; exact List.mem_cons_self)
    show (if Str.ofString g = Str.ofString f then _ else (Str.ofString g, u) :: putF (Str.ofString f) v (fsV fs vs)) = (Str.ofString g, u) :: fsV (fs ++ [f]) (vs ++ [v])
    rw [if_neg ne, putF_new (by simpa using h) fun z => hn (List.mem_cons_of_mem _ z)]
/-- self.f = e, self in slot i -/
theorem si_fld (i : Nat) (f : String) {o : Expr} {pos' : Pos} (O : POk X.K P) (ho : EI X W o (eVar i)) (ha : EI X W e fa) (hs : swapsWith e (some (.Attribute o (Str.ofString f) pos')) pos.line X.env = pure false := by rfl) :
    SI X W (.Assign [.Attribute o (Str.ofString f) pos'] e pos) (sFld P i f fa) := by
  refine psI (ps_fld ho ha hs) fun D σ H ⟨env, G, m, st, er, S, w⟩ => ?_
  refine ⟨env, G, m, st, er, S, (WS.st er w).imp fun d st1 G1 m1 H1 t1 S1 w1 v rv => ?_⟩
  refine ⟨env, G1, m1, st1, er.tr t1, S1, ?_⟩
  unfold eVar
  split at w1
  · rename_i n hi
    rw [hi]
    split at w1
    · rename_i C fs xs hn
      split at w1
      · rename_i hc
        refine fun G2 m2 H2 t2 S2 u ru => ?_
        cases ru with
        | ref hl =>
          obtain ⟨g2, dx, us, hu, hlen, rl⟩ := S2.at_ _ _ hn
          refine ⟨m2 n, _, dx, _, rfl, hu, (O.own C hc.2.2.2.1).1, O.fld _ hc.2.2.2.2, ?_, ?_⟩
          · unfold fsV
            rw [List.length_zip, List.length_map]
            omega
          · rw [putF_new hlen hc.2.2.1]
            have rv2 := rv.tr t2
            have S3 := S2.set (i := n) (o' := .ins C (fs ++ [f]) (xs ++ [d])) (u := .ins (gaC X.K C) dx (fsV (fs ++ [f]) (us ++ [v]))) hn rfl ⟨g2, dx, _, upd_same, by simp [hlen], rl.app (RpL.one (rv2.gnd d v hc.1))⟩
            exact w1 G2 m2 _ (t2.trans S2.trSet) S3 σ (((er.tr t1).tr t2).tr S2.trSet)
      · exact w1.elim
    · exact w1.elim
  · exact w1.elim

/-! ### for -/
/-- what an iterator yields -/
def ItD (K : PySem.W.Frag) (m : Nat → Addr) (n : Nat) (G : Hp) (ds : List D) (J : It) : Prop := ∀ (i : Nat) (G1 : Hp) (m1 : Nat → Addr) (st1 : Sto) (H1 : Hp), Tr G m n G1 m1 st1.length → SR K G1 m1 st1 H1 →
  (∀ d, ds[i]? = some d → J.go i H1 ∧ ∀ x H', J.yld i H1 x H' → ∃ G2, Tr G1 m1 st1.length G2 m1 st1.length ∧ SR K G2 m1 st1 H' ∧ Rp K m1 st1.length G2 x d) ∧ (ds.length ≤ i → J.stop i H1)
def tI (K : PySem.W.Frag) (W : WX) (f : Ax) : TI := fun σ H R => ∃ env G m st, ER K m st.length G σ env ∧ SR K G m st H ∧
  Wp K G m st.length (f env st) (fun ds st' G' m' H' => ∀ J, ItD K m' st'.length G' ds J → R J H') fun c dd H' => W c dd σ H'
abbrev II (X : Cx) (W : WX) (tg e : Expr) (f : Ax) : Prop := PI X tg e (tI X.K W f)
theorem piI {X : Cx} {tg e : Expr} {t t' : TI} (h : PI X tg e t) (i : ∀ σ H R, t' σ H R → t σ H R) : PI X tg e t' := ⟨fun pins s σ H R I q => h.run pins s σ H R I (i σ H R q)⟩
theorem itd_list {K : PySem.W.Frag} {m : Nat → Addr} {n : Nat} {G : Hp} {a : Addr} {vs : List V} {ds : List D} (h : SqL K G a vs) (r : RpL K m n G vs ds) : ItD K m n G ds (Itl K a) := by
  intro i G1 m1 st1 H1 t S
  have hq : SqL K H1 a vs := same_l S.ex (same_l t.ex h)
  refine ⟨fun d e => ?_, fun hl => ⟨vs, hq, by rw [r.length]; exact hl⟩⟩
  obtain ⟨v, e1, r1⟩ := r.get e
  refine ⟨⟨vs, v, hq, e1⟩, fun x H' ⟨e2, h2⟩ => ?_⟩
  subst e2
  have := h2 vs hq
  rw [e1] at this
  cases this
  exact ⟨G1, Tr.refl, S, r1.tr t⟩
theorem itd_tup {K : PySem.W.Frag} {m : Nat → Addr} {n : Nat} {G : Hp} {a : Addr} {vs : List V} {ds : List D} (h : SqT K G a vs) (r : RpL K m n G vs ds) : ItD K m n G ds (Itt K a) := by
  intro i G1 m1 st1 H1 t S
  have hq : SqT K H1 a vs := same_t S.ex (same_t t.ex h)
  refine ⟨fun d e => ?_, fun hl => ⟨vs, hq, by rw [r.length]; exact hl⟩⟩
  obtain ⟨v, e1, r1⟩ := r.get e
  refine ⟨⟨vs, v, hq, e1⟩, fun x H' ⟨e2, h2⟩ => ?_⟩
  subst e2
  have := h2 vs hq
  rw [e1] at this
  cases this
  exact ⟨G1, Tr.refl, S, r1.tr t⟩
theorem itd_enum {K : PySem.W.Frag} {m : Nat → Addr} {n : Nat} {G : Hp} {a : Addr} {vs : List V} {ds : List D} (h : SqL K G a vs) (r : RpL K m n G vs ds) : ItD K m n G (enumD 0 ds) (Ite K a) := by
  have len : ∀ (ds : List D) (k : Nat), (enumD k ds).length = ds.length := fun ds => by
    induction ds with
    | nil => intro k; rfl
    | cons d ds ih => intro k; rw [enumD, List.length_cons, List.length_cons, ih]
  have at_ : ∀ (ds : List D) (k i : Nat), (enumD k ds)[i]? = (ds[i]?).map fun d => .tup [.int ((k + i : Nat) : Int), d] := fun ds => by
    induction ds with
    | nil => intro k i; simp [enumD]
    | cons d ds ih =>
      intro k i
      cases i with
      | zero => simp [enumD]
      | succ i =>
        rw [enumD, List.getElem?_cons_succ, List.getElem?_cons_succ, ih]
        rw [show k + 1 + i = k + (i + 1) by omega]
  intro i G1 m1 st1 H1 t S
  have hq : SqL K H1 a vs := same_l S.ex (same_l t.ex h)
  refine ⟨fun d e => ?_, fun hl => ⟨vs, hq, by rw [r.length, ← len ds 0]; exact hl⟩⟩
  rw [at_] at e
  cases hd : ds[i]? with
  | none => rw [hd] at e; cases e
  | some d0 =>
    rw [hd] at e
    cases e
    obtain ⟨v, e1, r1⟩ := r.get hd
    refine ⟨⟨vs, v, hq, e1⟩, fun x H' ⟨T, y, e2, hT, e3, h2⟩ => ?_⟩
    subst e2 e3
    have := h2 vs hq
    rw [e1] at this
    cases this
    refine ⟨_, S.trNew hT, S.new hT, .tup (SqT.of upd_same) (.cons ?_ (.cons ((r1.tr t).tr (S.trNew hT)) .nil))⟩
    rw [Nat.zero_add]
    exact .int _
theorem itd_enumT {K : PySem.W.Frag} {m : Nat → Addr} {n : Nat} {G : Hp} {a : Addr} {vs : List V} {ds : List D} (h : SqT K G a vs) (r : RpL K m n G vs ds) : ItD K m n G (enumD 0 ds) (Itet K a) := by
  have len : ∀ (ds : List D) (k : Nat), (enumD k ds).length = ds.length := fun ds => by
    induction ds with
    | nil => intro k; rfl
    | cons d ds ih => intro k; rw [enumD, List.length_cons, List.length_cons, ih]
  have at_ : ∀ (ds : List D) (k i : Nat), (enumD k ds)[i]? = (ds[i]?).map fun d => .tup [.int ((k + i : Nat) : Int), d] := fun ds => by
    induction ds with
    | nil => intro k i; simp [enumD]
    | cons d ds ih =>
      intro k i
      cases i with
      | zero => simp [enumD]
      | succ i =>
        rw [enumD, List.getElem?_cons_succ, List.getElem?_cons_succ, ih]
        rw [show k + 1 + i = k + (i + 1) by omega]
  intro i G1 m1 st1 H1 t S
  have hq : SqT K H1 a vs := same_t S.ex (same_t t.ex h)
  refine ⟨fun d e => ?_, fun hl => ⟨vs, hq, by rw [r.length, ← len ds 0]; exact hl⟩⟩
  rw [at_] at e
  cases hd : ds[i]? with
  | none => rw [hd] at e; cases e
  | some d0 =>
    rw [hd] at e
    cases e
    obtain ⟨v, e1, r1⟩ := r.get hd
    refine ⟨⟨vs, v, hq, e1⟩, fun x H' ⟨T, y, e2, hT, e3, h2⟩ => ?_⟩
    subst e2 e3
    have := h2 vs hq
    rw [e1] at this
    cases this
    refine ⟨_, S.trNew hT, S.new hT, .tup (SqT.of upd_same) (.cons ?_ (.cons ((r1.tr t).tr (S.trNew hT)) .nil))⟩
    rw [Nat.zero_add]
    exact .int _
theorem ii_list {tg : Expr} (ha : EI X W e fa) : II X W tg e (iLst fa) := by
  refine piI (pi_list ha) fun σ H R ⟨env, G, m, st, er, S, w⟩ => ?_
  refine ⟨env, G, m, st, er, S, w.bnd.imp fun x st1 G1 m1 H1 t1 S1 w1 v rv => ?_⟩
  split at w1
  · cases rv with
    | lst h1 h2 => exact ⟨_, rfl, ⟨_, SqL.of (S1.ex _ _ h1)⟩, w1.now S1 _ (itd_list (SqL.of h1) h2)⟩
  · cases rv with
    | scr h1 h2 => exact ⟨_, rfl, ⟨_, same_l S1.ex h1⟩, w1.now S1 _ (itd_list h1 h2)⟩
  · exact w1.elim
theorem ii_tup {tg : Expr} (ha : EI X W e fa) : II X W tg e (iTpl fa) := by
  refine piI (pi_tup ha) fun σ H R ⟨env, G, m, st, er, S, w⟩ => ?_
  refine ⟨env, G, m, st, er, S, w.bnd.imp fun x st1 G1 m1 H1 t1 S1 w1 v rv => ?_⟩
  split at w1
  · cases rv with
    | tup h1 h2 => exact ⟨_, rfl, ⟨_, same_t S1.ex h1⟩, w1.now S1 _ (itd_tup h1 h2)⟩
  · exact w1.elim
theorem ii_str {tg : Expr} (ha : EI X W e fa) : II X W tg e (iStr fa) := by
  refine piI (pi_str ha) fun σ H R ⟨env, G, m, st, er, S, w⟩ => ?_
  refine ⟨env, G, m, st, er, S, w.bnd.imp fun x st1 G1 m1 H1 t1 S1 w1 v rv => ?_⟩
  split at w1
  · rename_i z
    cases rv
    refine ⟨z, rfl, w1.now S1 _ fun i G2 m2 st2 H2 t2 S2 => ⟨fun d e => ?_, fun hl => ?_⟩⟩
    · rw [List.getElem?_map] at e
      cases hc : z.cps.toList[i]? with
      | none => rw [hc] at e; cases e
      | some c =>
        rw [hc] at e
        cases e
        have hlt := (List.getElem?_eq_some_iff.mp hc).1
        refine ⟨show i < z.cps.size by simpa using hlt, fun x H' ⟨e2, c', hc', e3⟩ => ?_⟩
        subst e2 e3
        have : c' = c := by
          have h1 : z.cps.toList[i]? = some c' := by rw [Array.getElem?_toList]; exact hc'
          rw [hc] at h1
          exact (some_inj h1).symm
        subst this
        exact ⟨G2, Tr.refl, S2, .str _⟩
    · have : z.cps.toList.length ≤ i := by simpa using hl
      show z.cps.size ≤ i
      simpa using this
  · exact w1.elim
theorem ii_any {tg : Expr} (ha : EI X W e fa) : II X W tg e (iAny fa) := by
  refine ⟨fun pins s σ H R I ⟨env, G, m, st, er, S, w⟩ => ?_⟩
  have key : iAny fa env st = iLst fa env st ∨ iAny fa env st = iTpl fa env st ∨ iAny fa env st = iStr fa env st ∨ iAny fa env st = .bad := by
    unfold iAny iLst iTpl iStr
    cases h : fa env st with
    | bad => exact .inl rfl
    | exc C fs xs st1 => exact .inl rfl
    | ok d st1 =>
      cases d with
      | lst xs => exact .inl rfl
      | scr xs => exact .inl rfl
      | tup xs => exact .inr (.inl rfl)
      | str xs => exact .inr (.inr (.inl rfl))
      | _ => exact .inr (.inr (.inr rfl))
  rcases key with h | h | h | h
  · exact (ii_list ha).run pins s σ H R I ⟨env, G, m, st, er, S, by rw [← h]; exact w⟩
  · exact (ii_tup ha).run pins s σ H R I ⟨env, G, m, st, er, S, by rw [← h]; exact w⟩
  · exact (ii_str ha).run pins s σ H R I ⟨env, G, m, st, er, S, by rw [← h]; exact w⟩
  · rw [h] at w
    exact w.elim
theorem ii_enumL {tpos : Pos} {elts : List Expr} {kk : Nat} (hg : Gl X "enumerate") (hm : X.mg "enumerate" = none) (ha : EI X W e fa) (hs : starEach [e] X.env = [(false, eval e X.env)] := by rfl) (hs1 : starEach [e] X.env = (false, eval e X.env) :: starEach [] X.env := by rfl) :
    II X W (.Tuple elts kk tpos) (.Call (.Name "enumerate" p) [e] [] pos) (iEnumL fa) := by
  refine piI (pi_enum hg hm (ai_cons ha ai_nil hs1) hs) fun σ H R ⟨env, G, m, st, er, S, w⟩ => ?_
  refine ⟨env, G, m, st, er, S, ?_⟩
  have key := w.bnd
  unfold aCons
  cases hf : fa env st with
  | bad => rw [hf] at key; exact key
  | exc C fs xs st1 => rw [hf] at key; exact key
  | ok d st1 =>
    rw [hf] at key
    intro G1 m1 H1 t1 S1 vs rvs
    have w1 := key G1 m1 H1 t1 S1
    obtain ⟨v, rfl, rv⟩ := rp1 rvs
    dsimp only at w1
    split at w1
    · cases rv with
      | lst h1 h2 => exact ⟨_, _, rfl, SqL.of (S1.ex _ _ h1), w1.now S1 _ (itd_enum (SqL.of h1) h2)⟩
    · exact w1.elim
theorem ii_enumU {tpos : Pos} {elts : List Expr} {kk : Nat} (hg : Gl X "enumerate") (hm : X.mg "enumerate" = none) (ha : EI X W e fa) (hs : starEach [e] X.env = [(false, eval e X.env)] := by rfl) (hs1 : starEach [e] X.env = (false, eval e X.env) :: starEach [] X.env := by rfl) :
    II X W (.Tuple elts kk tpos) (.Call (.Name "enumerate" p) [e] [] pos) (iEnumU fa) := by
  refine piI (pi_enumT hg hm (ai_cons ha ai_nil hs1) hs) fun σ H R ⟨env, G, m, st, er, S, w⟩ => ?_
  refine ⟨env, G, m, st, er, S, ?_⟩
  have key := w.bnd
  unfold aCons
  cases hf : fa env st with
  | bad => rw [hf] at key; exact key
  | exc C fs xs st1 => rw [hf] at key; exact key
  | ok d st1 =>
    rw [hf] at key
    intro G1 m1 H1 t1 S1 vs rvs
    have w1 := key G1 m1 H1 t1 S1
    obtain ⟨v, rfl, rv⟩ := rp1 rvs
    dsimp only at w1
    split at w1
    · cases rv with
      | tup h1 h2 => exact ⟨_, _, rfl, same_t S1.ex h1, w1.now S1 _ (itd_enumT h1 h2)⟩
    · exact w1.elim
theorem ii_enum {tpos : Pos} {elts : List Expr} {kk : Nat} (hg : Gl X "enumerate") (hm : X.mg "enumerate" = none) (ha : EI X W e fa) (hs : starEach [e] X.env = [(false, eval e X.env)] := by rfl) (hs1 : starEach [e] X.env = (false, eval e X.env) :: starEach [] X.env := by rfl) :
    II X W (.Tuple elts kk tpos) (.Call (.Name "enumerate" p) [e] [] pos) (iEnum fa) := by
  refine ⟨fun pins s σ H R I ⟨env, G, m, st, er, S, w⟩ => ?_⟩
  have key : iEnum fa env st = iEnumL fa env st ∨ iEnum fa env st = iEnumU fa env st ∨ iEnum fa env st = .bad := by
    unfold iEnum iEnumL iEnumU
    cases h : fa env st with
    | bad => exact .inl rfl
    | exc C fs xs st1 => exact .inl rfl
    | ok d st1 =>
      cases d with
      | lst xs => exact .inl rfl
      | tup xs => exact .inr (.inl rfl)
      | _ => exact .inr (.inr rfl)
  rcases key with h | h | h
  · exact (ii_enumL hg hm ha hs hs1).run pins s σ H R I ⟨env, G, m, st, er, S, by rw [← h]; exact w⟩
  · exact (ii_enumU hg hm ha hs hs1).run pins s σ H R I ⟨env, G, m, st, er, S, by rw [← h]; exact w⟩
  · rw [h] at w
    exact w.elim
theorem itd_rg {K : PySem.W.Frag} {m : Nat → Addr} {n k : Nat} {G : Hp} {lo : Int} {ds : List D} (hl : ds.length = k) (hd : ∀ i, i < k → ds[i]? = some (.int (lo + (i : Nat)))) : ItD K m n G ds (Itr lo k) := by
  intro i G1 m1 st1 H1 t S
  refine ⟨fun d e => ?_, fun h => by show k ≤ i; omega⟩
  have hi : i < k := by
    have := (List.getElem?_eq_some_iff.mp e).1
    omega
  rw [hd i hi] at e
  cases e
  refine ⟨hi, fun x H' ⟨e2, e3⟩ => ?_⟩
  subst e2 e3
  exact ⟨G1, Tr.refl, S, .int _⟩
theorem rgD_len (a b : Int) : (rgD a b).length = (b - a).toNat := by simp [rgD]
theorem rgD_at (a b : Int) (i : Nat) (h : i < (b - a).toNat) : (rgD a b)[i]? = some (.int (a + (i : Nat))) := by simp [rgD, h]
theorem ii_rng1 {tg : Expr} {fas : Ax} (hg : Gl X "range") (hm : X.mg "range" = none) (ha : AI X W [e] fas) (hs : starEach [e] X.env = [(false, eval e X.env)] := by rfl) : II X W tg (.Call (.Name "range" p) [e] [] pos) (iRng1 fas) := by
  refine piI (pi_range1 hg hm ha hs) fun σ H R ⟨env, G, m, st, er, S, w⟩ => ?_
  refine ⟨env, G, m, st, er, S, w.bnd.imp fun x st1 G1 m1 H1 t1 S1 w1 v rv => ?_⟩
  split at w1
  · rename_i j
    split at w1
    · rename_i hj
      obtain ⟨u, rfl, ru⟩ := rp1 rv
      cases ru
      refine ⟨j, rfl, by omega, by omega, w1.now S1 _ (itd_rg ?_ fun i h => rgD_at 0 j i ?_)⟩
      · rw [rgD_len, Int.sub_zero]
      · rw [Int.sub_zero]; exact h
    · exact w1.elim
  · exact w1.elim
theorem ii_rng2 {tg : Expr} {fas : Ax} (hg : Gl X "range") (hm : X.mg "range" = none) (ha : AI X W [a, b] fas) (hs : starEach [a, b] X.env = [(false, eval a X.env), (false, eval b X.env)] := by rfl) (hs2 : starEach [b] X.env = [(false, eval b X.env)] := by rfl) :
    II X W tg (.Call (.Name "range" p) [a, b] [] pos) (iRng2 fas) := by
  refine piI (pi_range2 hg hm ha hs hs2) fun σ H R ⟨env, G, m, st, er, S, w⟩ => ?_
  refine ⟨env, G, m, st, er, S, w.bnd.imp fun x st1 G1 m1 H1 t1 S1 w1 v rv => ?_⟩
  split at w1
  · rename_i i j
    split at w1
    · rename_i hj
      obtain ⟨u, u', rfl, ru, ru'⟩ := rp2 rv
      cases ru
      cases ru'
      exact ⟨i, j, rfl, ⟨by omega, by omega, by omega, by omega⟩, w1.now S1 _ (itd_rg (rgD_len i j) fun k h => rgD_at i j k h)⟩
    · exact w1.elim
  · exact w1.elim
theorem rg3_size {i j k : Int} (hk : 0 < k) : Builtin.Range.rangeSize i j k = ((rg3N i j k : Nat) : Int) := by
  unfold Builtin.Range.rangeSize rg3N
  rw [if_pos hk]
  split
  · have h1 := Int.ediv_nonneg (a := j - i - 1) (b := k) (by omega) (by omega)
    omega
  · rfl
theorem rg3_small {i j k : Int} (hk : 0 < k) (hk2 : k ≤ 1000) (hi : -1000000 ≤ i ∧ i ≤ 1000000) (hj : -1000000 ≤ j ∧ j ≤ 1000000) : Builtin.Range.small i j k = true := by
  have h0 : Builtin.Range.rangeSize i j k ≤ 2000000 ∧ 0 ≤ Builtin.Range.rangeSize i j k := by
    unfold Builtin.Range.rangeSize
    rw [if_pos hk]
    split
    · have h1 := Int.ediv_nonneg (a := j - i - 1) (b := k) (by omega) (by omega)
      have h2 := Int.ediv_le_self k (show (0 : Int) ≤ j - i - 1 by omega)
      omega
    · omega
  unfold Builtin.Range.small
  generalize Builtin.Range.rangeSize i j k = n at h0 ⊢
  simp only [Builtin.Range.rangeFitsLong, Bool.and_eq_true, Bool.or_eq_true, decide_eq_true_eq, beq_iff_eq]
  refine ⟨⟨⟨⟨?_, ?_⟩, ?_⟩, ?_⟩, .inr ?_⟩
  · omega
  · omega
  · omega
  · omega
  · rw [if_pos hk]
    simp only [Bool.and_eq_true, decide_eq_true_eq]
    omega
theorem ii_rng3 {tg : Expr} {fas : Ax} (hg : Gl X "range") (hm : X.mg "range" = none) (ha : AI X W [a, b, c] fas) (hs : starEach [a, b, c] X.env = (false, eval a X.env) :: starEach [b, c] X.env := by rfl) (hpl : (backTo pos (starEach [b, c] X.env)).any (·.1) = false := by rfl) :
    II X W tg (.Call (.Name "range" p) [a, b, c] [] pos) (iRng3 fas) := by
  refine piI (pi_range3 hg hm ha hs hpl) fun σ H R ⟨env, G, m, st, er, S, w⟩ => ?_
  refine ⟨env, G, m, st, er, S, w.bnd.imp fun x st1 G1 m1 H1 t1 S1 w1 v rv => ?_⟩
  split at w1
  · rename_i i j k
    split at w1
    · rename_i hj
      obtain ⟨h1, h2, h3, h4, h5, h6⟩ := hj
      cases rv with
      | cons r1 rv =>
        obtain ⟨u, u', rfl, ru, ru'⟩ := rp2 rv
        cases r1
        cases ru
        cases ru'
        refine ⟨i, j, k, rg3N i j k, rfl, ⟨by omega, by omega, rg3_small h1 h2 ⟨h3, h4⟩ ⟨h5, h6⟩, rg3_size h1⟩, w1.now S1 _ ?_⟩
        intro t G2 m2 st2 H2 t2 S2
        refine ⟨fun d e => ?_, fun h => show rg3N i j k ≤ t by simpa [rg3D] using h⟩
        have ht := (List.getElem?_eq_some_iff.mp e).1
        have ht' : t < rg3N i j k := by simpa [rg3D] using ht
        refine ⟨ht', fun x H' ⟨e2, e3⟩ => ?_⟩
        subst e2 e3
        have : (rg3D i j k)[t]? = some (.int (i + (t : Nat) * k)) := by simp [rg3D, ht']
        rw [this] at e
        cases e
        exact ⟨G2, Tr.refl, S2, .int _⟩
    · exact w1.elim
  · exact w1.elim
end
end Cb

set_option Elab.async false
set_option linter.all false
set_option maxRecDepth 100000
set_option maxHeartbeats 4000000
/-! CbLoop: for, while, comprehensions. -/
namespace Cb
open PySem PySem.Spec PyProof.Rows L2

theorem drop_cons {α : Type} {ds : List α} {i : Nat} {d : α} (h : ds[i]? = some d) : ds.drop i = d :: ds.drop (i + 1) := by
  obtain ⟨h1, h2⟩ := List.getElem?_eq_some_iff.mp h
  rw [List.drop_eq_getElem_cons h1, h2]
section
variable {X : Cx} {W : WX} {a b c e : Expr} {es : List Expr} {fa fb fc : Ex} {pos p : Pos} {P : Pg} {s : Stmt} {ss ss' : List Stmt} {f : Sx}
theorem si_for {tg iter : Expr} {vs : List Nat} {src : Ax} {g : Gx} (hp : PassesOwn (model X.prog X.w) X.A X.env X.xe) (hc : X.calm = true) (hi : II X W tg iter src) (hg : GI X vs tg g) (hb : BI X W ss f)
    (hs : ∀ x, foldedSetIterable iter X.env x = pure x := by intro _; rfl) : SI X W (.For tg iter ss [] pos) (sFor src g f) := by
  refine psI (ps_for hp hc hi hg hb hs) fun D σ H ⟨env, G, m, st, er, S, w⟩ => ?_
  refine ⟨env, G, m, st, er, S, (WS.st er w).imp fun ds st1 G1 m1 H1 t1 S1 w1 J hJ => ?_⟩
  refine ⟨fun i k σ H => i + k = ds.length ∧ ∃ env G m st, Tr G1 m1 st1.length G m st.length ∧ ER X.K m st.length G σ env ∧ SR X.K G m st H ∧ WS X.K G m st.length (forL g f (ds.drop i) env st) (flP X.K D) W,
    ⟨ds.length, by omega, env, G1, m1, st1, Tr.refl, er.tr t1, S1, w1⟩, fun i k σ2 H2 ⟨hk, env2, G2, m2, st2, t2, er2, S2, w2⟩ => ?_⟩
  cases k with
  | zero =>
    left
    rw [List.drop_eq_nil_of_le (by omega)] at w2
    exact ⟨(hJ i _ _ _ _ t2 S2).2 (by omega), (show WS X.K G2 m2 st2.length (.ok (.nx env2) st2) _ _ from w2).now S2 σ2 er2⟩
  | succ k =>
    right
    have hlt : i < ds.length := by omega
    have hd : ds[i]? = some ds[i] := List.getElem?_eq_getElem hlt
    obtain ⟨hgo, hy⟩ := (hJ i _ _ _ _ t2 S2).1 _ hd
    rw [drop_cons hd, forL] at w2
    refine ⟨hgo, fun σ' H' => i + 1 + k = ds.length ∧ ∃ env G m st, Tr G1 m1 st1.length G m st.length ∧ ER X.K m st.length G σ' env ∧ SR X.K G m st H' ∧ WS X.K G m st.length (forL g f (ds.drop (i + 1)) env st) (flP X.K D) W, fun σ' H' h => ⟨k, by omega, h⟩, fun x H3 hx => ?_⟩
    obtain ⟨G3, t3, S3, r3⟩ := hy x H3 hx
    cases hgd : g ds[i] env2 with
    | none =>
      rw [hgd] at w2
      exact w2.elim
    | some env3 =>
      rw [hgd] at w2
      refine ⟨env2, G3, m2, st2, ds[i], env3, er2.tr t3, S3, r3, hgd, fun σ3 er3 _ => ⟨env3, G3, m2, st2, er3, S3, ?_⟩⟩
      have w3 := WS.from t3 w2
      dsimp only at w3
      have t13 := t2.trans t3
      cases hf : f env3 st2 with
      | bad =>
        rw [hf] at w3
        exact w3
      | exc C fs xs env4 st4 =>
        rw [hf] at w3
        exact w3
      | ok fl st4 =>
        rw [hf] at w3
        cases fl with
        | nx env4 => exact fun G4 m4 H4 t4 S4 σ4 er4 => ⟨by omega, env4, G4, m4, st4, t13.trans t4, er4, S4, WS.from t4 w3⟩
        | ct env4 => exact fun G4 m4 H4 t4 S4 σ4 er4 => ⟨by omega, env4, G4, m4, st4, t13.trans t4, er4, S4, WS.from t4 w3⟩
        | bk env4 => exact w3
        | rt d => exact w3
theorem si_while {t : Tx} (N : Nat) (hp : PassesOwn (model X.prog X.w) X.A X.env X.xe) (hc : TI' X W c t) (hb : BI X W ss f) : SI X W (.While c ss [] pos) (sWhile N t f) := by
  refine psI (ps_while hp hc hb) fun D σ H ⟨env, G, m, st, er, S, w⟩ => ?_
  refine ⟨fun k σ H => ∃ env G m st, ER X.K m st.length G σ env ∧ SR X.K G m st H ∧ WS X.K G m st.length (whileN t f k env st) (flP X.K D) W, ⟨N, env, G, m, st, er, S, w⟩, fun k σ2 H2 ⟨env2, G2, m2, st2, er2, S2, w2⟩ => ?_⟩
  cases k with
  | zero => exact (show False from w2).elim
  | succ k =>
    refine ⟨env2, G2, m2, st2, er2, S2, (WS.st er2 w2).imp fun x st3 G3 m3 H3 t3 S3 w3 => ?_⟩
    cases x with
    | false =>
      rw [if_neg Bool.false_ne_true] at w3 ⊢
      exact w3.now S3 σ2 (er2.tr t3)
    | true =>
      rw [if_pos rfl] at w3 ⊢
      refine ⟨fun σ' H' => ∃ env G m st, ER X.K m st.length G σ' env ∧ SR X.K G m st H' ∧ WS X.K G m st.length (whileN t f k env st) (flP X.K D) W, fun σ' H' h => ⟨k, by omega, h⟩, env2, G3, m3, st3, er2.tr t3, S3, ?_⟩
      cases hf : f env2 st3 with
      | bad =>
        rw [hf] at w3
        exact w3
      | exc C fs xs env4 st4 =>
        rw [hf] at w3
        exact w3
      | ok fl st4 =>
        rw [hf] at w3
        cases fl with
        | nx env4 => exact fun G4 m4 H4 t4 S4 σ4 er4 => ⟨env4, G4, m4, st4, er4, S4, WS.from t4 w3⟩
        | ct env4 => exact fun G4 m4 H4 t4 S4 σ4 er4 => ⟨env4, G4, m4, st4, er4, S4, WS.from t4 w3⟩
        | bk env4 => exact w3
        | rt d => exact w3

/-! ### comprehensions -/
theorem wipe_in {σ : St} {vs : List Nat} : ∀ us : List Nat, (∀ u ∈ us, u ∈ vs) → wipe (wipe σ us) vs = wipe σ vs
  | [], _ => rfl
  | u :: us, h => by
    show wipe ((wipe σ us).set u none) vs = wipe σ vs
    rw [wipe_set (h u List.mem_cons_self), wipe_in us fun x hx => h x (List.mem_cons_of_mem _ hx)]
theorem er_wipe {K : PySem.W.Frag} {m : Nat → Addr} {n : Nat} {G : Hp} {σ : St} {env : Env} (h : ER K m n G σ env) : ∀ vs : List Nat, ER K m n G (wipe σ vs) (wipeE env vs)
  | [] => h
  | v :: vs => (er_wipe h vs).setN v
def W0 : WX := fun _ _ _ _ => False
theorem takes_W0 {X : Cx} : Takes X W0 := fun _ _ ⟨_, _, _, _, _, _, _, _, _, _, _, _, _, _, _, _, w⟩ => w.elim
abbrev TsI (X : Cx) (ifs : List Expr) (f : Tx) : Prop := PTs X ifs (tT X.K W0 f)
theorem tsi_nil : TsI X [] tYes := ⟨fun pins s σ H Q I ⟨env, G, m, st, er, S, w⟩ => pts_nil.run pins s σ H Q I ((show Wp X.K G m st.length (.ok true st) _ _ from w).now S)⟩
theorem tsi_one {t : Tx} (h : TI' X W0 c t) : TsI X [c] t := pts_one h
theorem lc_key {vs : List Nat} {K : PySem.W.Frag} {src : Ax} {g : Gx} {t : Tx} {fa : Ex} {σ : St} {H : Hp} {Q : VK} (h : tE K W (eLc src g vs t fa) σ H Q) : tLc (tI K W src) (tG K vs g) (tT K W0 t) (tE K W0 fa) vs σ H Q := by
  obtain ⟨env, G, m, st, er, S, w⟩ := h
  refine ⟨env, G, m, st, er, S, w.bnd.imp fun ds st1 G1 m1 H1 t1 S1 w1 J hJ => fun Da hDa => ?_⟩
  generalize hr : lcL g t fa st1.length ds (wipeE env vs) (st1 ++ [.lst []]) = r at w1
  have S2 := S1.push (u := .lst []) (o := .lst []) hDa rfl ⟨S1.free hDa, [], upd_same, .nil⟩
  have t12 : Tr G1 m1 st1.length G1 (fun i => if i = st1.length then Da else m1 i) (st1 ++ [SO.lst []]).length := S1.trPush
  generalize hm2 : (fun i => if i = st1.length then Da else m1 i) = m2 at S2 t12
  have hD : m2 st1.length = Da := by rw [← hm2]; simp
  have hn2 : st1.length < (st1 ++ [SO.lst []]).length := by simp
  have er2 : ER K m2 (st1 ++ [SO.lst []]).length G1 (wipe σ vs) (wipeE env vs) := er_wipe ((er.tr t1).tr t12) vs
  refine ⟨fun i k H => i + k = ds.length ∧ ∃ G m st, Tr G1 m2 (st1 ++ [SO.lst []]).length G m st.length ∧ SR K G m st H ∧ lcL g t fa st1.length (ds.drop i) (wipeE env vs) st = r, ⟨ds.length, by omega, G1, m2, _, Tr.refl, S2, hr⟩,
    fun i k H3 ⟨hk, G3, m3, st3, t3, S3, e3⟩ => ?_⟩
  have hD3 : m3 st1.length = Da := by rw [t3.mm _ hn2, hD]
  have hlen : st1.length < st3.length := Nat.lt_of_lt_of_le hn2 t3.le
  have t13 : Tr G1 m1 st1.length G3 m3 st3.length := t12.trans t3
  cases k with
  | zero =>
    left
    rw [List.drop_eq_nil_of_le (by omega), lcL] at e3
    refine ⟨(hJ i _ _ _ _ t13 S3).2 (by omega), ?_⟩
    split at e3
    · rename_i acc ha
      subst e3
      obtain ⟨G4, t4, S4, r4⟩ := S3.frz ha
      have w2 := w1
      dsimp only [Cb.R.bnd] at w2
      have hl : (st3.take st1.length).length = st1.length := by rw [List.length_take]; omega
      have S5 := S4.take st1.length
      rw [List.take_set_of_le (by omega)] at S5
      refine w2 G4 m3 H3 ⟨t13.ex.trans t4.ex, t13.mm, by rw [hl]; exact Nat.le_refl _⟩ S5 _ ?_
      rw [← hD3]
      exact r4 _
    · subst e3
      exact (show False from w1).elim
  | succ k =>
    right
    have hlt : i < ds.length := by omega
    have hd : ds[i]? = some ds[i] := List.getElem?_eq_getElem hlt
    obtain ⟨hgo, hy⟩ := (hJ i _ _ _ _ t13 S3).1 _ hd
    rw [drop_cons hd, lcL] at e3
    refine ⟨hgo, fun H' => i + 1 + k = ds.length ∧ ∃ G m st, Tr G1 m2 (st1 ++ [SO.lst []]).length G m st.length ∧ SR K G m st H' ∧ lcL g t fa st1.length (ds.drop (i + 1)) (wipeE env vs) st = r, fun H' h => ⟨k, by omega, h⟩, fun x H4 hx => ?_⟩
    obtain ⟨G4, t4, S4, r4⟩ := hy x H4 hx
    have bad : r ≠ .bad := fun z => by
      rw [z] at w1
      exact w1
    cases hgd : g ds[i] (wipeE env vs) with
    | none =>
      rw [hgd] at e3
      exact absurd e3.symm bad
    | some env4 =>
      rw [hgd] at e3
      refine ⟨_, G4, m3, st3, ds[i], env4, (er2.tr t3).tr t4, S4, r4, hgd, fun σ4 er4 hw => ⟨?_, env4, G4, m3, st3, er4, S4, ?_⟩⟩
      · rw [hw]
        exact wipe_in vs fun u h => h
      · dsimp only at e3
        cases hte : t env4 st3 with
        | bad =>
          rw [hte] at e3
          exact absurd e3.symm bad
        | exc C fs xs st5 =>
          rw [hte] at e3
          exact absurd e3.symm bad
        | ok q st5 =>
          rw [hte] at e3
          intro G5 m5 H5 t5 S5
          have t15 : Tr G1 m2 (st1 ++ [SO.lst []]).length G5 m5 st5.length := (t3.trans t4).trans t5
          dsimp only
          cases q with
          | false =>
            rw [if_neg Bool.false_ne_true]
            exact ⟨by omega, G5, m5, st5, t15, S5, e3⟩
          | true =>
            rw [if_pos rfl]
            refine ⟨env4, G5, m5, st5, er4.tr t5, S5, ?_⟩
            dsimp only at e3
            cases hfe : fa env4 st5 with
            | bad =>
              rw [hfe] at e3
              exact absurd e3.symm bad
            | exc C fs xs st6 =>
              rw [hfe] at e3
              exact absurd e3.symm bad
            | ok d st6 =>
              rw [hfe] at e3
              intro G6 m6 H6 t6 S6 v rv
              dsimp only at e3
              split at e3
              · rename_i acc ha
                split at e3
                · rename_i hcd
                  obtain ⟨g6, us, hu, rl⟩ := S6.at_ _ _ ha
                  have t16 := t15.trans t6
                  have hD6 : m6 st1.length = Da := by rw [t16.mm _ hn2, hD]
                  rw [hD6] at hu g6
                  refine ⟨us, hu, by rw [rl.length]; exact Nat.lt_of_lt_of_le hcd.2 big, by omega, G6, m6, _, t16.trans S6.trSet, ?_, e3⟩
                  have S7 := S6.set (i := st1.length) (o' := .lst (acc ++ [d])) (u := .lst (us ++ [v])) ha rfl ⟨by rw [hD6]; exact g6, _, upd_same, rl.app (RpL.one (rv.gnd d v hcd.1))⟩
                  rw [hD6] at S7
                  exact S7
                · exact absurd e3.symm bad
              · exact absurd e3.symm bad
theorem ei_lc {tg iter : Expr} {ifs : List Expr} {scope : Scope} {own : List (Str × Nat)} {src : Ax} {g : Gx} {t : Tx} (hc : X.calm = true) (hN : X.N.Nodup) (hi : II X W tg iter src) (ok : BlkOk X.N X.env.scope scope own)
    (hg : ∀ (s : Shared) (H : Hp) (C : Addr) (cl : List (Str × Addr)) (fp : List Addr), GI (X.blk s H scope (compEnvC scope cl C X.env) fp) (own.map (·.2)) tg g)
    (ht : ∀ (s : Shared) (H : Hp) (C : Addr) (cl : List (Str × Addr)) (fp : List Addr), TsI (X.blk s H scope (compEnvC scope cl C X.env) fp) ifs t)
    (he : ∀ (s : Shared) (H : Hp) (C : Addr) (cl : List (Str × Addr)) (fp : List Addr), EI (X.blk s H scope (compEnvC scope cl C X.env) fp) W0 e fa) (hs : ∀ x, foldedSetIterable iter X.env x = pure x := by intro _; rfl) :
    EI X W (.ListComp e [⟨tg, iter, ifs, 0⟩] scope pos) (eLc src g (own.map (·.2)) t fa) := by
  exact peI (pe_lc (g := tG X.K (own.map (·.2)) g) (tt := tT X.K W0 t) (te := tE X.K W0 fa) hc hN hi ok hg ht he hs) fun _ _ _ h => lc_key h
/-- name = [..] -/
theorem si_setLc (i : Nat) {y : Str} {py : Pos} {spos : Pos} {tg iter : Expr} {ifs : List Expr} {scope : Scope} {own : List (Str × Nat)} {src : Ax} {g : Gx} {t : Tx} (hc : X.calm = true) (hN : X.N.Nodup) (hi : II X W tg iter src) (ok : BlkOk X.N X.env.scope scope own)
    (hg : ∀ (s : Shared) (H : Hp) (C : Addr) (cl : List (Str × Addr)) (fp : List Addr), GI (X.blk s H scope (compEnvC scope cl C X.env) fp) (own.map (·.2)) tg g)
    (ht : ∀ (s : Shared) (H : Hp) (C : Addr) (cl : List (Str × Addr)) (fp : List Addr), TsI (X.blk s H scope (compEnvC scope cl C X.env) fp) ifs t)
    (he : ∀ (s : Shared) (H : Hp) (C : Addr) (cl : List (Str × Addr)) (fp : List Addr), EI (X.blk s H scope (compEnvC scope cl C X.env) fp) W0 e fa)
    (hsw : swapsWith (.ListComp e [⟨tg, iter, ifs, 0⟩] scope pos) (some (.Name y py)) spos.line X.env = pure true) (hy : X.N[i]? = some y := by rfl) (hyl : X.env.scope.names.lookup y = some .local := by rfl) (hs : ∀ x, foldedSetIterable iter X.env x = pure x := by intro _; rfl) :
    SI X W (.Assign [.Name y py] (.ListComp e [⟨tg, iter, ifs, 0⟩] scope pos) spos) (sAsg (eLc src g (own.map (·.2)) t fa) (gName i)) := by
  refine psI (ps_setLc (g := tG X.K (own.map (·.2)) g) (tt := tT X.K W0 t) (te := tE X.K W0 fa) hc hN hy hyl hsw hi ok hg ht he hs) fun D σ H ⟨env, G, m, st, er, S, w⟩ => ?_
  refine lc_key ⟨env, G, m, st, er, S, (WS.st er w).imp fun x st1 G1 m1 H1 t1 S1 w1 v rv => ?_⟩
  exact (show WS X.K G1 m1 st1.length (.ok (.nx (env.set i (some x))) st1) _ _ from w1).now S1 _ ((er.tr t1).set i rv)
end
end Cb

set_option Elab.async false
set_option linter.all false
set_option maxRecDepth 100000
set_option maxHeartbeats 4000000
/-! CbFn: functions. -/
namespace Cb
open PySem PySem.Spec PyProof.Rows L2

/-- a function's promise -/
def spI (K : PySem.W.Frag) (F : Fn) (n : Nat) : Sp := fun vs H Q E => ∃ G m st ds, SR K G m st H ∧ RpL K m st.length G vs ds ∧ ds.length = n ∧ Wp K G m st.length (F ds st) (fun d st' G' m' H' => ∀ v, Rp K m' st'.length G' v d → Q v H') E
theorem spI.len {K : PySem.W.Frag} {F : Fn} {n : Nat} : ∀ vs H Q E, spI K F n vs H Q E → vs.length = n := fun vs H Q E ⟨G, m, st, ds, S, r, e, _⟩ => r.length.trans e
/-- how a function hands its value back -/
def FinOk (fin : Nat → D → Sto → R D) : Prop := ∀ {K : PySem.W.Frag} {G : Hp} {m : Nat → Addr} {st1 : Sto} {H : Hp} {v : V} {d : D} {base : Nat} {P : D → Sto → Hp → (Nat → Addr) → Hp → Prop} {E : XK}, SR K G m st1 H → Rp K m st1.length G v d → base ≤ st1.length →
  Wp K G m base (fin base d st1) P E → ∃ d' st' G' m', P d' st' G' m' H ∧ Rp K m' st'.length G' v d'
theorem take_len {st : Sto} {n : Nat} (h : n ≤ st.length) : (st.take n).length = n := by
  rw [List.length_take]
  omega
theorem gnd_any {K : PySem.W.Frag} {m m' : Nat → Addr} {n n' : Nat} {G : Hp} {v : V} {d : D} (h : d.gnd = true) (r : Rp K m n G v d) : Rp K m' n' G v d := (Rp.gnd (m' := fun _ => 0) d v h r).up (Same.refl _)
theorem finR_ok : FinOk finR := by
  intro K G m st1 H v d base P E S r hb w
  have hl := take_len hb
  have other : (∀ k, d ≠ .ref k) → ∃ d' st' G' m', P d' st' G' m' H ∧ Rp K m' st'.length G' v d' := by
    intro hd
    have e : finR base d st1 = if d.gnd then .ok d (st1.take base) else .bad := by
      cases d <;> first | rfl | exact absurd rfl (hd _)
    rw [e] at w
    by_cases hg : d.gnd = true
    · rw [if_pos hg] at w
      exact ⟨d, st1.take base, G, m, w G m H ⟨Same.refl _, fun _ _ => rfl, by rw [hl]; exact Nat.le_refl _⟩ (S.take base), gnd_any hg r⟩
    · rw [if_neg hg] at w
      exact w.elim
  cases d with
  | ref k =>
    cases r with
    | ref hk =>
      unfold finR at w
      dsimp only at w
      split at w
      · rename_i hlt
        exact ⟨.ref k, st1.take base, G, m, w G m H ⟨Same.refl _, fun _ _ => rfl, by rw [hl]; exact Nat.le_refl _⟩ (S.take base), .ref (by rw [hl]; exact hlt)⟩
      · rename_i hlt
        split at w
        · rename_i xs hx
          obtain ⟨G', t, S', r'⟩ := S.frz hx
          have S2 := S'.take base
          rw [List.take_set_of_le (by omega)] at S2
          exact ⟨.lst xs, st1.take base, G', m, w G' m H ⟨t.ex, fun _ _ => rfl, by rw [hl]; exact Nat.le_refl _⟩ S2, r' _⟩
        · exact w.elim
  | _ => exact other fun k z => by cases z
theorem finL_ok : FinOk finL := by
  intro K G m st1 H v d base P E S r hb w
  have hl := take_len hb
  have other : (∀ k, d ≠ .ref k) → ∃ d' st' G' m', P d' st' G' m' H ∧ Rp K m' st'.length G' v d' := by
    intro hd
    have e : finL base d st1 = if d.gnd then .ok d (st1.take base) else .bad := by
      cases d <;> first | rfl | exact absurd rfl (hd _)
    rw [e] at w
    by_cases hg : d.gnd = true
    · rw [if_pos hg] at w
      exact ⟨d, st1.take base, G, m, w G m H ⟨Same.refl _, fun _ _ => rfl, by rw [hl]; exact Nat.le_refl _⟩ (S.take base), gnd_any hg r⟩
    · rw [if_neg hg] at w
      exact w.elim
  cases d with
  | ref k =>
    cases r with
    | ref hk =>
      unfold finL at w
      dsimp only at w
      split at w
      · rename_i hlt
        exact ⟨.ref k, st1.take base, G, m, w G m H ⟨Same.refl _, fun _ _ => rfl, by rw [hl]; exact Nat.le_refl _⟩ (S.take base), .ref (by rw [hl]; exact hlt)⟩
      · rename_i hlt
        split at w
        · rename_i xs hx
          have at1 : ∀ n x, (st1.take base ++ [SO.lst xs])[n]? = some x → (n < base ∧ st1[n]? = some x) ∨ (n = base ∧ x = .lst xs) := fun n x e => by
            by_cases hn : n < base
            · rw [List.getElem?_append_left (by omega), List.getElem?_take, if_pos hn] at e
              exact .inl ⟨hn, e⟩
            · rw [List.getElem?_append_right (by omega), hl] at e
              by_cases z : n - base = 0
              · rw [z] at e
                exact .inr ⟨by omega, by simpa using e.symm⟩
              · rw [List.getElem?_eq_none (by simp; omega)] at e
                cases e
          have S2 : SR K G (fun i => if i = base then m k else m i) (st1.take base ++ [.lst xs]) H := by
            refine ⟨S.ex, fun n x e => ?_, fun i j x y e1 e2 l1 l2 eq => ?_⟩
            · rcases at1 n x e with ⟨hn, e⟩ | ⟨rfl, rfl⟩
              · simp only [if_neg (Nat.ne_of_lt hn)]
                exact S.at_ n x e
              · simp only [if_true]
                exact S.at_ k _ hx
            · rcases at1 i x e1 with ⟨hi, f1⟩ | ⟨rfl, rfl⟩ <;> rcases at1 j y e2 with ⟨hj, f2⟩ | ⟨rfl, rfl⟩
              · simp only [if_neg (Nat.ne_of_lt hi), if_neg (Nat.ne_of_lt hj)] at eq
                exact S.inj i j x y f1 f2 l1 l2 eq
              · simp only [if_neg (Nat.ne_of_lt hi), if_true] at eq
                exact absurd (S.inj i k x _ f1 hx l1 rfl eq) (by omega)
              · simp only [if_neg (Nat.ne_of_lt hj), if_true] at eq
                exact absurd (S.inj k j _ y hx f2 rfl l2 eq) (by omega)
              · rfl
          have q := Rp.ref (K := K) (m := fun i => if i = base then m k else m i) (n := (st1.take base ++ [SO.lst xs]).length) (G := G) (i := base) (by simp [hl])
          simp only [if_true] at q
          exact ⟨.ref base, _, G, _, w G _ H ⟨Same.refl _, fun i hi => by simp only [if_neg (Nat.ne_of_lt hi)], by simp [hl]⟩ S2, q⟩
        · exact w.elim
  | _ => exact other fun k z => by cases z

section
variable {P : Program} {w : World} {K : PySem.W.Frag} {mg : Str → Option Value} {base : Heap} {x qual : Str} {params : Arguments} {body : List Stmt} {scope : Scope} {dvs : List V} {kws : List (Str × V)} {f : Addr} {fd : FuncData}
theorem er_start {m : Nat → Addr} {n : Nat} {G : Hp} {N : List Str} {vs : List V} {ds : List D} (r : RpL K m n G vs ds) : ER K m n G (L2.start N vs) (ds.map some ++ List.replicate (N.length - ds.length) none) := by
  have hl := r.length
  refine ⟨by simp [L2.start, hl], fun i d e => ?_⟩
  have hi : i < ds.length := by
    by_cases h : i < ds.length
    · exact h
    · rw [List.getElem?_append_right (by simpa using h)] at e
      rw [List.getElem?_replicate] at e
      split at e <;> cases e
  rw [List.getElem?_append_left (by simpa using hi), List.getElem?_map] at e
  cases hd : ds[i]? with
  | none => rw [hd] at e; cases e
  | some d' =>
    rw [hd] at e
    cases e
    obtain ⟨v, e1, r1⟩ := r.get hd
    refine ⟨v, ?_, r1⟩
    unfold L2.start
    rw [List.getElem?_append_left (by rw [List.length_map, hl]; exact hi), List.getElem?_map, e1]
    rfl
/-- a body's reading from its function's -/
theorem body_of {fin : Nat → D → Sto → R D} (hf : FinOk fin) {N : List Str} {n : Nat} {b : Sx} {vs : List V} {H : Hp} {Q : VK} {E : XK} (h : spI K (fnS fin n N.length b) n vs H Q E) : tS K (fun c d _ H => E c d H) b { nx := fun _ H' => Q .non H', rt := Q } (L2.start N vs) H := by
  obtain ⟨G, m, st, ds, S, r, e, w⟩ := h
  refine ⟨_, G, m, st, er_start r, S, ?_⟩
  unfold fnS at w
  rw [if_pos e] at w
  rw [e]
  have down : ∀ {G1 : Hp} {m1 : Nat → Addr} {st1 : Sto}, Tr G m st.length G1 m1 st1.length → Tr G m st.length G1 m1 st.length := fun t => ⟨t.ex, t.mm, Nat.le_refl _⟩
  cases hb : b (ds.map some ++ List.replicate (N.length - n) none) st with
  | bad =>
    rw [hb] at w
    exact w
  | exc C fs xs env1 st1 =>
    rw [hb] at w
    intro dd us σ1 G1 m1 H1 t1 S1 x1 r1 _
    exact w dd us G1 m1 H1 ⟨t1.ex, t1.mm, by rw [take_len t1.le]; exact Nat.le_refl _⟩ (S1.take _) x1 r1
  | ok fl st1 =>
    rw [hb] at w
    cases fl with
    | nx env1 =>
      intro G1 m1 H1 t1 S1 σ1 er1
      obtain ⟨d', st', G', m', p, q⟩ := hf S1 (Rp.non (K := K) (m := m1) (n := st1.length) (G := G1)) t1.le (Wp.from (down t1) w)
      exact p _ q
    | rt d =>
      intro G1 m1 H1 t1 S1 v rv
      obtain ⟨d', st', G', m', p, q⟩ := hf S1 rv t1.le (Wp.from (down t1) w)
      exact p _ q
    | bk env1 => exact w.elim
    | ct env1 => exact w.elim
/-- THE RULE for a def -/
theorem fn_ok {fin : Nat → D → Sto → R D} (hf : FinOk fin) {N ps : List Str} {k : Nat} {b : Sx} (F : FunD K x qual params body scope dvs kws f fd) (S : FnScope N ps scope)
    (hbody : ∀ (cdv : Value) (A : Around) (outer : List PySem.Env) (s : Shared) (H : Hp) (E : XK), Room k (A.deeper (envOfC qual scope s.heap.objs.size f cdv)) → Takes (cxOf (L2.CX P w) P w K mg base N qual scope f cdv A outer s H E) (fun c d _ H => E c d H) → PassesOwn (model P w) (A.deeper (envOfC qual scope s.heap.objs.size f cdv)) (envOfC qual scope s.heap.objs.size f cdv) (cxOf (L2.CX P w) P w K mg base N qual scope f cdv A outer s H E).xe →
      BI (cxOf (L2.CX P w) P w K mg base N qual scope f cdv A outer s H E) (fun c d _ H => E c d H) body b) :
    FnOk P w K mg base (L2.CX P w) (k + 1) f fd ps (spI K (fnS fin ps.length N.length b) ps.length) :=
  F.ok S spI.len fun cdv A outer s H vs Q E hr h => ⟨_, hbody cdv A outer s H E hr (takes_of rfl rfl rfl rfl) (passes_of rfl), body_of hf h⟩
end

/-! ### calls -/
/-- how a call's arguments bind, by data -/
def KB (K : PySem.W.Frag) (fd : FuncData) (ps : List Str) (n : Nat) (ks : List Str) (gD : List D → List D → List D) : Prop :=
  ∃ g gV, KBn K fd ps n ks g gV ∧ ∀ {m : Nat → Addr} {l : Nat} {G : Hp} {vs zs : List V} {ds es : List D}, RpL K m l G vs ds → RpL K m l G zs es → RpL K m l G (gV vs zs) (gD ds es)
theorem kb_plain {K : PySem.W.Frag} {fd : FuncData} {ps : List Str} (h : Binds K fd ps []) : KB K fd ps ps.length [] (fun xs _ => xs) := by
  refine ⟨fun us _ => us, fun vs _ => vs, ⟨fun s us ws X h1 h2 => ?_, fun r _ => r⟩, fun r _ => r⟩
  have q := h s us X (by rw [List.append_nil]; exact h1)
  rw [List.append_nil] at q
  exact q
section
variable {X : Cx} {W : WX} {k n : Nat} {f C : Addr} {fd : FuncData} {ps ks : List Str} {F : Fn} {x : Str} {p pos : Pos} {e : Expr} {es : List Expr} {kws : List Keyword} {fas fak : Ax} {gD : List D → List D → List D}
abbrev KI (X : Cx) (W : WX) (kws : List Keyword) (f : Ax) : Prop := PK X kws (tA X.K W f)
theorem pkI {X : Cx} {e : List Keyword} {t t' : TA} (h : PK X e t) (i : ∀ σ H Q, t' σ H Q → t σ H Q) : PK X e t' := ⟨fun pos pins s σ H Q I q => h.run pos pins s σ H Q I (i σ H Q q)⟩
theorem ki_nil : KI X W [] aNil := pkI pk_nil fun σ H Q ⟨env, G, m, st, er, S, w⟩ => (show Wp X.K G m st.length (.ok [] st) _ _ from w).now S [] .nil
theorem ki_cons {nm : Option Str} {kpos : Pos} {fa : Ex} (ha : EI X W e fa) (hr : KI X W kws fak) : KI X W (⟨nm, e, kpos⟩ :: kws) (aCons fa fak) := by
  refine pkI (pk_cons ha hr) fun σ H Q ⟨env, G, m, st, er, S, w⟩ => ?_
  refine ⟨env, G, m, st, er, S, w.bnd.imp fun x st1 G1 m1 H1 t1 S1 w1 v rv => ?_⟩
  refine ⟨env, G1, m1, st1, er.tr t1, S1, w1.bnd.imp fun xs st2 G2 m2 H2 t2 S2 w2 vs rvs => ?_⟩
  exact w2.now S2 _ (.cons (rv.tr t2) rvs)
theorem run_fnA {sp : Sp} {E : XK} {g : List Value → List Value → List Value} {gV : List V → List V → List V} {pins : List (Addr × Obj)} {σ : St} {H : Hp} {s : Shared} {Q : VK} {us ws : List Value} {vs zs : List V} (F : FnOk X.prog X.w X.K X.mg X.base (L2.CX X.prog X.w) k f fd ps sp) (hr : Room k X.A) (hb : KBn X.K fd ps n ks g gV) (hx : PassesAt (L2.CX X.prog X.w) X σ E)
    (I : Inv X pins σ H s) (r : Vals vs us) (rz : Vals zs ws) (l1 : vs.length = n) (l2 : zs.length = ks.length) (h : sp (gV vs zs) H Q E) : wpAny (model X.prog X.w) X.A (call (.ref f) us (ks.zip ws)) (EP X pins σ Q) X.xe s := by
  have r2 := hb.rel r rz
  refine wpAny_call (codeAny_mono (F.run X.A X.stack s H ⟨us, ks.zip ws⟩ (g us ws) (gV vs zs) Q E hr I.env0 (hb.to s us ws I.kIn (r.length.symm.trans l1) (rz.length.symm.trans l2)) r2 h) fun r s' hq => ?_)
  cases r with
  | error e => exact hx pins H s e s' I hq
  | ok fl =>
    cases fl with
    | ret u => exact I.after hq
    | next => exact False.elim hq
    | brk => exact False.elim hq
    | cont => exact False.elim hq
/-- the arguments' data, then the function -/
def tArgs (K : PySem.W.Frag) (W : WX) (n m : Nat) (fas fak : Ax) (R : List D → List D → Sto → Hp → (Nat → Addr) → Hp → List V → List V → St → VK → Prop) : St → Hp → VK → Prop := fun σ H Q =>
  tA K W fas σ H fun vs H1 => tA K W fak σ H1 fun zs H2 => vs.length = n ∧ zs.length = m ∧ ∃ ds es st G m, SR K G m st H2 ∧ RpL K m st.length G vs ds ∧ RpL K m st.length G zs es ∧ R ds es st G m H2 vs zs σ Q
theorem args_key {K : PySem.W.Frag} {n l : Nat} {σ : St} {H : Hp} {Q : VK} {k : List D → List D → Sto → R D} (hn : ∀ env st ds st', fas env st = .ok ds st' → ds.length = n) (hl : ∀ env st ds st', fak env st = .ok ds st' → ds.length = l)
    (h : tE K W (fun env st => (fas env st).bnd fun xs st1 => (fak env st1).bnd fun ys st2 => k xs ys st2) σ H Q) :
    tA K W fas σ H fun vs H1 => tA K W fak σ H1 fun zs H2 => vs.length = n ∧ zs.length = l ∧ ∃ ds es st G m, SR K G m st H2 ∧ RpL K m st.length G vs ds ∧ RpL K m st.length G zs es ∧
      Wp K G m st.length (k ds es st) (fun d st' G' m' H' => ∀ v, Rp K m' st'.length G' v d → Q v H') fun c dd H' => W c dd σ H' := by
  obtain ⟨env, G, m, st, er, S, w⟩ := h
  refine ⟨env, G, m, st, er, S, ?_⟩
  have w := w.bnd
  cases h1 : fas env st with
  | bad => rw [h1] at w; exact w
  | exc C fs xs st1 => rw [h1] at w; exact w
  | ok ds st1 =>
    rw [h1] at w
    intro G1 m1 H1 t1 S1 vs rvs
    have w1 := w G1 m1 H1 t1 S1
    refine ⟨env, G1, m1, st1, er.tr t1, S1, ?_⟩
    dsimp only at w1
    have w1 := w1.bnd
    cases h2 : fak env st1 with
    | bad => rw [h2] at w1; exact w1
    | exc C fs xs st2 => rw [h2] at w1; exact w1
    | ok es st2 =>
      rw [h2] at w1
      intro G2 m2 H2 t2 S2 zs rzs
      exact ⟨rvs.length.trans (hn _ _ _ _ h1), rzs.length.trans (hl _ _ _ _ h2), ds, es, st2, G2, m2, S2, rvs.tr t2, rzs, w1 G2 m2 H2 t2 S2⟩
/-- a list of n argument readings -/
def AxN (n : Nat) (f : Ax) : Prop := ∀ env st ds st', f env st = .ok ds st' → ds.length = n
theorem axn_nil : AxN 0 aNil := fun env st ds st' h => by
  cases h
  rfl
theorem axn_cons {n : Nat} {fa : Ex} {f : Ax} (h : AxN n f) : AxN (n + 1) (aCons fa f) := fun env st ds st' e => by
  unfold aCons at e
  cases h1 : fa env st with
  | bad => rw [h1] at e; cases e
  | exc C fs xs st1 => rw [h1] at e; cases e
  | ok d st1 =>
    rw [h1] at e
    have e : ((f env st1).bnd fun xs st2 => .ok (d :: xs) st2) = .ok ds st' := e
    cases h2 : f env st1 with
    | bad => rw [h2] at e; cases e
    | exc C fs xs st2 => rw [h2] at e; cases e
    | ok es st2 =>
      rw [h2] at e
      cases e
      rw [List.length_cons, h _ _ _ _ h2]
theorem ei_callG (G : FnOk X.prog X.w X.K X.mg X.base (L2.CX X.prog X.w) k f fd ps (spI X.K F ps.length)) (hr : Room k X.A) (tk : Takes X W) (hg : Gl X x) (hm : X.mg x = some (.ref f)) (hk : PySem.W.keepIn X.K (.ref f) = true) (hb : KB X.K fd ps n ks gD) (hgl : ∀ xs ys, xs.length = n → ys.length = ks.length → (gD xs ys).length = ps.length)
    (ha : AI X W (e :: es) fas) (hkw : KI X W kws fak) (hn : AxN n fas) (hl : AxN ks.length fak) (hall : (backToKw pos (keywordEach kws X.env)).all (·.1.isSome) = true := by rfl) (hks : (backToKw pos (keywordEach kws X.env)).filterMap (·.1) = ks := by rfl)
    (hdb : (x == ("__debug__" : Str)) = false := by decide) (he : starEach (e :: es) X.env = (false, eval e X.env) :: starEach es X.env := by rfl)
    (hpl : ((backTo pos (starEach (e :: es) X.env)).any (·.1) || (backToKw pos (keywordEach kws X.env)).any (·.1.isNone)) = false := by rfl) : EI X W (.Call (.Name x p) (e :: es) kws pos) (eCallG F gD fas fak) := by
  obtain ⟨g, gV, hb, hrel⟩ := hb
  refine ⟨fun pins s σ H Q I h => ?_⟩
  have h := args_key hn hl h
  refine wpAny_Call_Name_kw (ld_glob I hg hm ?_ hdb)
  refine PySem.W.callWith_KW (h₀ := X.base) I.ok.mod.kin hk hall (thn (ha.run pos pins s σ H _ I h) fun us s1 ⟨vs, H1, I1, r, q⟩ => ?_) hpl he
  refine thn (hkw.run pos pins s1 σ H1 _ I1 q) fun ws s2 ⟨zs, H2, I2, rz, l1, l2, ds, es', st, G', m, S, r1, r2, w⟩ => ⟨I2.kIn, ?_⟩
  rw [hks]
  exact run_fnA G hr hb (passAt tk σ) I2 r rz l1 l2 ⟨G', m, st, gD ds es', S, hrel r1 r2, hgl _ _ (r1.length.symm.trans l1) (r2.length.symm.trans l2), w⟩
/-- only keywords -/
theorem ei_callG0 (G : FnOk X.prog X.w X.K X.mg X.base (L2.CX X.prog X.w) k f fd ps (spI X.K F ps.length)) (hr : Room k X.A) (tk : Takes X W) (hg : Gl X x) (hm : X.mg x = some (.ref f)) (hk : PySem.W.keepIn X.K (.ref f) = true) (hb : KB X.K fd ps 0 ks gD) (hgl : ∀ xs ys, xs.length = 0 → ys.length = ks.length → (gD xs ys).length = ps.length)
    (hkw : KI X W kws fak) (hl : AxN ks.length fak) (hall : (backToKw pos (keywordEach kws X.env)).all (·.1.isSome) = true := by rfl) (hks : (backToKw pos (keywordEach kws X.env)).filterMap (·.1) = ks := by rfl)
    (hdb : (x == ("__debug__" : Str)) = false := by decide) (hpl : ((backTo pos (starEach [] X.env)).any (·.1) || (backToKw pos (keywordEach kws X.env)).any (·.1.isNone)) = false := by rfl) : EI X W (.Call (.Name x p) [] kws pos) (eCallG F gD aNil fak) := by
  obtain ⟨g, gV, hb, hrel⟩ := hb
  refine ⟨fun pins s σ H Q I h => ?_⟩
  have h := args_key axn_nil hl h
  have h2 : tA X.K W fak σ H fun zs H2 => zs.length = ks.length ∧ ∃ es st G m, SR X.K G m st H2 ∧ RpL X.K m st.length G zs es ∧
      Wp X.K G m st.length (F (gD [] es) st) (fun d st' G' m' H' => ∀ v, Rp X.K m' st'.length G' v d → Q v H') fun c dd H' => W c dd σ H' := by
    have h3 := (ai_nil (X := X) (W := W)).run
    obtain ⟨env, G0, m0, st0, er, S, w⟩ := h
    have w := (show Wp X.K G0 m0 st0.length (.ok [] st0) _ _ from w).now S [] .nil
    obtain ⟨env, G1, m1, st1, er, S, w⟩ := w
    refine ⟨env, G1, m1, st1, er, S, w.imp fun es st2 G2 m2 H2 t2 S2 q zs rz => ?_⟩
    obtain ⟨l1, l2, ds, es', st, G', m, S', r1, r2, w⟩ := q zs rz
    cases r1
    exact ⟨l2, es', st, G', m, S', r2, w⟩
  refine wpAny_Call_Name_kw (ld_glob I hg hm ?_ hdb)
  refine PySem.W.callWith_KW0 (h₀ := X.base) I.ok.mod.kin hk hall ?_ hpl
  refine thn (hkw.run pos pins s σ H _ I h2) fun ws s2 ⟨zs, H2, I2, rz, l2, es', st, G', m, S, r2, w⟩ => ⟨I2.kIn, ?_⟩
  rw [hks]
  exact run_fnA (us := []) (vs := []) G hr hb (passAt tk σ) I2 .nil rz rfl l2 ⟨G', m, st, gD [] es', S, hrel .nil r2, hgl _ _ rfl (r2.length.symm.trans l2), w⟩
/-- the plain call -/
theorem ei_call (G : FnOk X.prog X.w X.K X.mg X.base (L2.CX X.prog X.w) k f fd ps (spI X.K F ps.length)) (hr : Room k X.A) (tk : Takes X W) (hg : Gl X x) (hm : X.mg x = some (.ref f)) (hk : PySem.W.keepIn X.K (.ref f) = true) (hb : Binds X.K fd ps [])
    (ha : AI X W (e :: es) fas) (hn : AxN ps.length fas) (hdb : (x == ("__debug__" : Str)) = false := by decide) (he : starEach (e :: es) X.env = (false, eval e X.env) :: starEach es X.env := by rfl)
    (hpl : ((backTo pos (starEach (e :: es) X.env)).any (·.1) || (backToKw pos (keywordEach [] X.env)).any (·.1.isNone)) = false := by rfl) : EI X W (.Call (.Name x p) (e :: es) [] pos) (eCall F fas) := by
  refine peI (ei_callG (ks := []) G hr tk hg hm hk (kb_plain hb) (fun xs ys h _ => h) ha ki_nil hn axn_nil rfl rfl hdb he hpl) fun σ H Q ⟨env, G, m, st, er, S, w⟩ => ⟨env, G, m, st, er, S, ?_⟩
  exact w
end
end Cb

set_option Elab.async false
set_option linter.all false
set_option maxRecDepth 100000
set_option maxHeartbeats 4000000
/-! CbMake: new instances. -/
namespace Cb
open PySem PySem.Spec PyProof.Rows L2

theorem SR.side {K : PySem.W.Frag} {m : Nat → Addr} {st : Sto} {G H : Hp} (S : SR K G m st H) {p : Addr} {o : HO} (h : H p = none) : SR K G m st (upd H p o) := by
  refine ⟨fun a u e => ?_, fun n x e => ?_, S.inj⟩
  · exact same_new h a u (S.ex a u e)
  · have k := S.at_ n x e
    refine k.mono (Same.refl _) (fun _ g => g) fun l => upd_ne fun z => ?_
    obtain ⟨_, u, hu⟩ := k.there l
    rw [z, h] at hu
    cases hu
section
variable {X : Cx} {W : WX} {k n : Nat} {f C : Addr} {fd : FuncData} {ps ks : List Str} {F : Fn} {x : Str} {p pos : Pos} {e : Expr} {es : List Expr} {kws : List Keyword} {fas fak : Ax} {gD g : List D → List D → List D}
theorem run_makeA {sp : Sp} {E : XK} {g : List Value → List Value → List Value} {gV : List V → List V → List V} {pins : List (Addr × Obj)} {σ : St} {H : Hp} {s : Shared} {Q : VK} {us ws : List Value} {vs zs : List V} (M : Mk X.K C f) (F : FnOk X.prog X.w X.K X.mg X.base (L2.CX X.prog X.w) k f fd ps sp) (hr : Room (k + 1) X.A) (hb : KBn X.K fd ps (n + 1) ks g gV)
    (hx : PassesAt (L2.CX X.prog X.w) X σ E) (I : Inv X pins σ H s) (r : Vals vs us) (rz : Vals zs ws) (l1 : vs.length = n) (l2 : zs.length = ks.length)
    (h : ∀ x dx, H x = none → H dx = none → dx ≠ x → sp (gV (.ref x :: vs) zs) (upd (upd H dx (.own x)) x (.ins C dx [])) (fun v H2 => v = .non ∧ Q (.ref x) H2) E) :
    wpAny (model X.prog X.w) X.A (call (.ref C) us (ks.zip ws)) (EP X pins σ Q) X.xe s := by
  have hq := h (s.heap.objs.size + 1) s.heap.objs.size (I.hok.fresh (Nat.le_succ _)) (I.hok.fresh (Nat.le_refl _)) (Nat.ne_of_lt (Nat.lt_succ_self _))
  have I2 := Inv.made (C := C) I
  have r1 : Vals (V.ref (s.heap.objs.size + 1) :: vs) (Value.ref (s.heap.objs.size + 1) :: us) := .cons rfl r
  have r2 := hb.rel r1 rz
  have e1 : (Value.ref (s.heap.objs.size + 1) :: us).length = n + 1 := r1.length.symm.trans (congrArg Nat.succ l1)
  have e2 : ws.length = ks.length := rz.length.symm.trans l2
  refine wpAny_call (make_map (f := f) I.kIn M.makes M.init (beq_iff_eq.mp M.fn) (codeAny_mono (F.run _ X.stack _ _ ⟨Value.ref (s.heap.objs.size + 1) :: us, ks.zip ws⟩ (g (Value.ref (s.heap.objs.size + 1) :: us) ws) _ _ E (hr.make C us (ks.zip ws))
    (I2.env0.make C us (ks.zip ws)) (hb.to _ (Value.ref (s.heap.objs.size + 1) :: us) ws I2.kIn e1 e2) r2 hq) fun r s' hq' => ?_))
  cases r with
  | error e => exact hx pins _ _ e s' I2 hq'
  | ok fl =>
    cases fl with
    | ret u =>
      obtain ⟨v, H', I3, rv, ev, q3⟩ := I2.after hq'
      subst ev
      exact ⟨rv, ⟨V.ref (s.heap.objs.size + 1), H', I3, rfl, q3⟩⟩
    | next => exact False.elim hq'
    | brk => exact False.elim hq'
    | cont => exact False.elim hq'
theorem make_key {K : PySem.W.Frag} {C : String} {H : Hp} {G : Hp} {m : Nat → Addr} {st : Sto} {ds : List D} {vs : List V} {Q : VK} {E : XK} {x dx : Addr} {nn : Nat} (S : SR K G m st H) (r : ∀ m' l, Tr G m st.length G m' l → m' st.length = x → st.length < l → RpL K m' l G vs (.ref st.length :: ds)) (hlen : (D.ref st.length :: ds).length = nn)
    (w : Wp K G m st.length (mkD C F ds st) (fun d st' G' m' H' => ∀ v, Rp K m' st'.length G' v d → Q v H') E) (hx : H x = none) (hdx : H dx = none) (ne : dx ≠ x) :
    spI K F nn vs (upd (upd H dx (.own x)) x (.ins (gaC K C) dx [])) (fun v H3 => v = .non ∧ Q (.ref x) H3) E := by
  have hx2 : upd H dx (.own x) x = none := by rw [upd_ne (Ne.symm ne)]; exact hx
  have S1 : SR K G m st (upd H dx (.own x)) := S.side hdx
  have S2 := S1.push (u := .ins (gaC K C) dx []) (o := .ins C [] []) hx2 rfl ⟨S1.free hx2, dx, [], upd_same, rfl, .nil⟩
  have t2 : Tr G m st.length G (fun i => if i = st.length then x else m i) (st ++ [SO.ins C [] []]).length := S1.trPush
  refine ⟨G, _, _, .ref st.length :: ds, S2, r _ _ t2 (by simp) (by simp), hlen, ?_⟩
  unfold mkD at w
  cases hF : F (.ref st.length :: ds) (st ++ [.ins C [] []]) with
  | bad =>
    rw [hF] at w
    exact w
  | exc C' fs xs st2 =>
    rw [hF] at w
    intro dd us G3 m3 H3 t3 S3 x3 r3
    have t13 := t2.trans t3
    have hl : st.length ≤ st2.length := t13.le
    exact w dd us G3 m3 H3 ⟨t13.ex, t13.mm, by rw [take_len hl]; exact Nat.le_refl _⟩ (S3.take _) x3 r3
  | ok d st2 =>
    rw [hF] at w
    intro G3 m3 H3 t3 S3 v rv
    have t13 := t2.trans t3
    have hl : st.length ≤ st2.length := t13.le
    have hx3 : m3 st.length = x := by rw [t3.mm _ (by simp)]; simp
    cases d with
    | non =>
      cases rv
      refine ⟨rfl, ?_⟩
      dsimp only at w
      split at w
      · rename_i C' fs ys hi
        split at w
        · rename_i hC
          subst hC
          obtain ⟨G4, t4, S4, r4⟩ := S3.frzI hi
          have S5 := S4.take st.length
          rw [List.take_set_of_le (by omega)] at S5
          have q := w G4 m3 H3 ⟨t13.ex.trans t4.ex, t13.mm, by rw [take_len hl]; exact Nat.le_refl _⟩ S5 _ (r4 _)
          rw [hx3] at q
          exact q
        · exact w.elim
      · exact w.elim
    | _ => exact w.elim
/-- C(e, .., k = v, ..) -/
theorem ei_make (C : String) (M : Mk X.K (gaC X.K C) f) (G : FnOk X.prog X.w X.K X.mg X.base (L2.CX X.prog X.w) k f fd ps (spI X.K F ps.length)) (hr : Room (k + 1) X.A) (tk : Takes X W) (hg : Gl X x) (hm : X.mg x = some (.ref (gaC X.K C))) (hb : KB X.K fd ps (n + 1) ks gD) (hself : ∀ s xs ys, gD (s :: xs) ys = s :: g xs ys) (hgl : ∀ xs ys, xs.length = n → ys.length = ks.length → (g xs ys).length + 1 = ps.length)
    (ha : AI X W (e :: es) fas) (hkw : KI X W kws fak) (hn : AxN n fas) (hl : AxN ks.length fak) (hall : (backToKw pos (keywordEach kws X.env)).all (·.1.isSome) = true := by rfl) (hks : (backToKw pos (keywordEach kws X.env)).filterMap (·.1) = ks := by rfl)
    (hdb : (x == ("__debug__" : Str)) = false := by decide) (he : starEach (e :: es) X.env = (false, eval e X.env) :: starEach es X.env := by rfl)
    (hpl : ((backTo pos (starEach (e :: es) X.env)).any (·.1) || (backToKw pos (keywordEach kws X.env)).any (·.1.isNone)) = false := by rfl) : EI X W (.Call (.Name x p) (e :: es) kws pos) (eMake C F g fas fak) := by
  obtain ⟨gg, gV, hb, hrel⟩ := hb
  refine ⟨fun pins s σ H Q I h => ?_⟩
  have h := args_key hn hl h
  refine wpAny_Call_Name_kw (ld_glob I hg hm ?_ hdb)
  refine PySem.W.callWith_KW (h₀ := X.base) I.ok.mod.kin M.kp hall (thn (ha.run pos pins s σ H _ I h) fun us s1 ⟨vs, H1, I1, r, q⟩ => ?_) hpl he
  refine thn (hkw.run pos pins s1 σ H1 _ I1 q) fun ws s2 ⟨zs, H2, I2, rz, l1, l2, ds, es', st, G', m, S, r1, r2, w⟩ => ⟨I2.kIn, ?_⟩
  rw [hks]
  refine run_makeA M G hr hb (passAt tk σ) I2 r rz l1 l2 fun y dy hy hdy ne => ?_
  refine make_key (ds := g ds es') S (fun m' l t hm hlt => ?_) (by rw [List.length_cons]; exact hgl _ _ (r1.length.symm.trans l1) (r2.length.symm.trans l2)) w hy hdy ne
  rw [← hself]
  refine hrel (.cons ?_ (r1.tr t)) (r2.tr t)
  rw [← hm]
  exact .ref hlt
end
end Cb

set_option Elab.async false
set_option linter.all false
set_option maxRecDepth 100000
set_option maxHeartbeats 4000000
/-! CbIs: isinstance. -/
namespace Cb
open PySem PySem.Spec PyProof.Rows L2

def rIsD (K : PySem.W.Frag) : List V → Hp → VK → Prop := fun xs H Q => ∃ (x c : V) (t : Value) (b : Bool), xs = [x, c] ∧ TyX K H x t ∧ ((∃ u, ClsV c u ∧ PySem.W.kitOne K t u = some b) ∨ (∃ tp cs us, c = .ref tp ∧ SqT K H tp cs ∧ Paired ClsV cs us ∧ PySem.W.kitAny K t us = some b)) ∧ Q (.bl b) H
theorem call_isD {X : Cx} : CallR X (.builtin "isinstance") (rIsD X.K) := by
  intro pins s σ H xs us Q I r h
  obtain ⟨x, c, t, b, rfl, ty, hc, q⟩ := h
  rcases hc with ⟨u, k, e⟩ | ⟨tp, cs, ws, rfl, hT, k, e⟩
  · exact call_isi pins s σ H _ us Q I r ⟨x, c, t, u, b, rfl, k, ty, e, q⟩
  · obtain ⟨u1, u2, rfl, r1, r2⟩ := vals2 r
    cases (show u2 = Value.ref tp from r2)
    obtain ⟨Z1, Z, p, hx⟩ := kit_of I r1 ty
    obtain ⟨its, rv, ⟨o, h1, h2, n, h3⟩, _⟩ := I.tuple hT
    have e3 := ClsV.all k rv
    subst e3
    obtain ⟨oc, od, dt, sl⟩ := o
    simp only at h2 h3
    subst h2 h3
    exact PySem.W.kia_tup Z I.kIn p h1 e hx fun tk => ⟨.bl b, H, I.tok tk, rfl, q⟩
section
variable {K : PySem.W.Frag} {P : Pg}
theorem ctF_mem {t c : String ⊕ String} {b : Bool} : ∀ {l : List ((String ⊕ String) × (String ⊕ String) × Bool)}, ctF t c l = some b → (t, c, b) ∈ l
  | [], e => by simp [ctF] at e
  | (x, y, r) :: l, e => by
    unfold ctF at e
    split at e
    · rename_i h
      cases e
      rw [h.1, h.2]
      exact List.mem_cons_self
    · exact List.mem_cons_of_mem _ (ctF_mem e)
theorem ty_of {G : Hp} {m : Nat → Addr} {st : Sto} {H : Hp} {v : V} {x : D} {t : String ⊕ String} (O : POk K P) (S : SR K G m st H) (rv : Rp K m st.length G v x) (e : (view st x).tyOf P = some t) : TyX K H v (tv K t) := by
  cases hx : view st x with
  | lst xs =>
    rw [hx] at e
    cases e
    obtain ⟨a, vs, rfl, hv, _⟩ := view_lst S rv hx
    exact .base (.lst hv)
  | non =>
    rw [hx] at e
    cases e
    rw [v_non rv hx]
    exact .base .non
  | bl b =>
    rw [hx] at e
    cases e
    rw [v_bl rv hx]
    exact .base (.bl b)
  | int b =>
    rw [hx] at e
    cases e
    rw [v_int rv hx]
    exact .base (.int b)
  | str b =>
    rw [hx] at e
    cases e
    rw [v_str rv hx]
    exact .base (.str b)
  | tup xs =>
    rw [hx] at e
    cases e
    obtain ⟨a, vs, rfl, h1, _⟩ := v_tup rv hx
    rcases same_t S.ex h1 with (h | ⟨o, h⟩) | ⟨o, its, n, h, hc, _⟩
    · exact .base (.tup h)
    · exact .fTuple h
    · exact .kTuple h hc
  | scr xs =>
    rw [hx] at e
    cases e
    obtain ⟨a, vs, rfl, h1, _⟩ := v_scr rv hx
    rcases same_l S.ex h1 with (h | ⟨o, h⟩) | ⟨o, its, n, h, hc, _⟩
    · exact .base (.lst h)
    · exact .base (.frz h)
    · exact .kList h hc
  | obj C fs xs =>
    rw [hx] at e
    have q := view_else hx (fun xs z => by cases z)
    subst q
    simp only [D.tyOf] at e
    split at e
    · rename_i hC
      cases e
      cases rv with
      | obj h1 h2 h3 =>
        obtain ⟨c1, c2, c3⟩ := O.own C hC
        exact .base (.ins (S.ex _ _ h1) c1 c2 O.bn O.bt c3)
    · cases e
  | _ =>
    rw [hx] at e
    cases e
theorem cls_of {G : Hp} {m : Nat → Addr} {n : Nat} {v : V} {x : D} {t : String ⊕ String} {b : Bool} (O : POk K P) (rv : Rp K m n G v x) (e : isi1 P t x = some b) : ∃ u, ClsV v u ∧ PySem.W.kitOne K (tv K t) u = some b := by
  cases x with
  | ty n =>
    cases rv
    exact ⟨_, .ty n, O.ct _ (ctF_mem e)⟩
  | cls C =>
    cases rv
    exact ⟨_, .own _, O.ct _ (ctF_mem e)⟩
  | _ => cases e
theorem any_of {G : Hp} {m : Nat → Addr} {n : Nat} {t : String ⊕ String} (O : POk K P) : ∀ {cs : List D} {vs : List V} {b : Bool}, RpL K m n G vs cs → (∀ c ∈ cs, ∃ r, isi1 P t c = some r) → isiA P t cs = some b → ∃ us, Paired ClsV vs us ∧ PySem.W.kitAny K (tv K t) us = some b
  | [], _, b, r, _, e => by
    cases r
    cases e
    exact ⟨[], .nil, rfl⟩
  | c :: cs, _, b, r, hc, e => by
    cases r with
    | @cons v0 vs0 _ _ r1 r2 =>
      obtain ⟨q, hq⟩ := hc c List.mem_cons_self
      obtain ⟨u, k, hu⟩ := cls_of O r1 hq
      unfold isiA at e
      have e2 : (some q).bind (fun b => if b then some true else isiA P t cs) = some b := by rw [← hq]; exact e
      cases q with
      | true =>
        cases e2
        have : ∃ us, Paired ClsV vs0 us := by
          have key : ∀ {cs : List D} {vs : List V}, RpL K m n G vs cs → (∀ c ∈ cs, ∃ r, isi1 P t c = some r) → ∃ us, Paired ClsV vs us := by
            intro cs
            induction cs with
            | nil => intro vs r _; cases r; exact ⟨[], .nil⟩
            | cons d ds ih =>
              intro vs r h
              cases r with
              | cons r1 r2 =>
                obtain ⟨q, hq⟩ := h d List.mem_cons_self
                obtain ⟨u, k, _⟩ := cls_of O r1 hq
                obtain ⟨us, hus⟩ := ih r2 fun c hc => h c (List.mem_cons_of_mem _ hc)
                exact ⟨u :: us, .cons k hus⟩
          exact key r2 fun c h => hc c (List.mem_cons_of_mem _ h)
        obtain ⟨us, hus⟩ := this
        refine ⟨u :: us, .cons k hus, ?_⟩
        unfold PySem.W.kitAny
        rw [hu]
      | false =>
        obtain ⟨us, hus, h2⟩ := any_of O r2 (fun c h => hc c (List.mem_cons_of_mem _ h)) e2
        refine ⟨u :: us, .cons k hus, ?_⟩
        unfold PySem.W.kitAny
        rw [hu]
        exact h2
theorem cs_isi (O : POk K P) : ClSem K (cIsi P) (rIsD K) := by
  intro G m st H vs xs z S rvs e Q q
  unfold cIsi at e
  split at e
  · rename_i x' c' h
    obtain ⟨x, c, rfl, rfl, rfl⟩ := map2 h
    obtain ⟨v, u, rfl, rv, ru⟩ := rp2 rvs
    cases ht : (view st x).tyOf P with
    | none => rw [ht] at e; cases e
    | some t =>
      rw [ht] at e
      have e2 : (isiC P t (view st c)).map D.bl = some z := e
      cases hi : isiC P t (view st c) with
      | none => rw [hi] at e2; cases e2
      | some b =>
        rw [hi] at e2
        cases e2
        refine ⟨v, u, tv K t, b, rfl, ty_of O S rv ht, ?_, q _ _ _ Tr.refl S (.bl _)⟩
        unfold isiC at hi
        split at hi
        · rename_i n hc
          have qc := view_else hc (fun xs z => by cases z)
          subst qc
          exact .inl (cls_of O ru hi)
        · rename_i C hc
          have qc := view_else hc (fun xs z => by cases z)
          subst qc
          exact .inl (cls_of O ru hi)
        · rename_i cs hc
          obtain ⟨a, us, rfl, h1, r1⟩ := v_tup ru hc
          split at hi
          · rename_i hall
            obtain ⟨ws, h2, h3⟩ := any_of (t := t) O r1 (fun c hm => by
              have := List.all_eq_true.mp hall c hm
              exact Option.isSome_iff_exists.mp this) hi
            exact .inr ⟨a, us, ws, rfl, same_t S.ex h1, h2, h3⟩
          · cases hi
        · cases hi
  · cases e
end
end Cb

set_option Elab.async false
set_option linter.all false
set_option maxRecDepth 100000
set_option maxHeartbeats 4000000
/-! CbPre: the rules as the printed terms name them. -/
namespace Cb
open PySem PySem.Spec PyProof.Rows L2

/-- a def that stands in the module and keeps its promise -/
structure Has (P : Program) (w : World) (K : PySem.W.Frag) (mg : Str → Option Value) (base : Heap) (k : Nat) (x : Str) (f : Addr) (ps : List Str) (F : Fn) : Prop where
  ok : ∃ fd, FnOk P w K mg base (L2.CX P w) k f fd ps (spI K F ps.length) ∧ Binds K fd ps []
  gl : mg x = some (.ref f)
  kp : PySem.W.keepIn K (.ref f) = true
theorem Has.mono {P : Program} {w : World} {K : PySem.W.Frag} {mg : Str → Option Value} {base : Heap} {j k : Nat} {x : Str} {f : Addr} {ps : List Str} {F : Fn} (h : Has P w K mg base j x f ps F) (l : j ≤ k) : Has P w K mg base k x f ps F :=
  ⟨let ⟨fd, a, b⟩ := h.ok; ⟨fd, a.mono l, b⟩, h.gl, h.kp⟩
/-- .. by arguments that the call's form puts in order -/
structure HasG (P : Program) (w : World) (K : PySem.W.Frag) (mg : Str → Option Value) (base : Heap) (k : Nat) (x : Str) (f : Addr) (ps : List Str) (n : Nat) (ks : List Str) (gD : List D → List D → List D) (F : Fn) : Prop where
  ok : ∃ fd, FnOk P w K mg base (L2.CX P w) k f fd ps (spI K F ps.length) ∧ KB K fd ps n ks gD
  gl : mg x = some (.ref f)
  kp : PySem.W.keepIn K (.ref f) = true
/-- a class and its __init__ -/
structure HasM (P : Program) (w : World) (K : PySem.W.Frag) (mg : Str → Option Value) (base : Heap) (k : Nat) (C : String) (ps : List Str) (n : Nat) (ks : List Str) (gD : List D → List D → List D) (F : Fn) : Prop where
  ok : ∃ f fd, Mk K (gaC K C) f ∧ FnOk P w K mg base (L2.CX P w) k f fd ps (spI K F ps.length) ∧ KB K fd ps (n + 1) ks gD
  gl : mg (Str.ofString C) = some (.ref (gaC K C))
theorem fn_bad {P : Program} {w : World} {K : PySem.W.Frag} {mg : Str → Option Value} {base : Heap} {k : Nat} {f : Addr} {fd : FuncData} {ps : List Str} : FnOk P w K mg base (L2.CX P w) k f fd ps (spI K (fun _ _ => .bad) ps.length) :=
  ⟨spI.len, fun _ _ _ _ _ _ _ _ _ _ _ _ _ ⟨_, _, _, _, _, _, _, w⟩ => w.elim⟩

section
variable {X : Cx} {W : WX} {k n : Nat} {f C : Addr} {fd : FuncData} {ps ks : List Str} {F : Fn} {x : Str} {p pos p0 : Pos} {a b e : Expr} {es : List Expr} {kws : List Keyword} {fa fb : Ex} {fas fak : Ax} {gD g : List D → List D → List D} {P : Pg}
theorem ei_f {j : Nat} (h : Has X.prog X.w X.K X.mg X.base j x f ps F) (hr : Room k X.A) (tk : Takes X W) (hj : j ≤ k) (ha : AI X W (e :: es) fas) (hn : AxN ps.length fas) (hg : Gl X x := by rfl) (hdb : (x == ("__debug__" : Str)) = false := by decide) (he : starEach (e :: es) X.env = (false, eval e X.env) :: starEach es X.env := by rfl)
    (hpl : ((backTo pos (starEach (e :: es) X.env)).any (·.1) || (backToKw pos (keywordEach [] X.env)).any (·.1.isNone)) = false := by rfl) : EI X W (.Call (.Name x p) (e :: es) [] pos) (eCall F fas) :=
  let ⟨_, h1, h2⟩ := h.ok
  ei_call h1 (hr.mono hj) tk hg h.gl h.kp h2 ha hn hdb he hpl
theorem ei_fg {j : Nat} (h : HasG X.prog X.w X.K X.mg X.base j x f ps n ks gD F) (hr : Room k X.A) (tk : Takes X W) (hj : j ≤ k) (hgl : ∀ xs ys, xs.length = n → ys.length = ks.length → (gD xs ys).length = ps.length) (ha : AI X W (e :: es) fas) (hkw : KI X W kws fak) (hn : AxN n fas) (hl : AxN ks.length fak) (hg : Gl X x := by rfl)
    (hall : (backToKw pos (keywordEach kws X.env)).all (·.1.isSome) = true := by rfl) (hks : (backToKw pos (keywordEach kws X.env)).filterMap (·.1) = ks := by rfl)
    (hdb : (x == ("__debug__" : Str)) = false := by decide) (he : starEach (e :: es) X.env = (false, eval e X.env) :: starEach es X.env := by rfl)
    (hpl : ((backTo pos (starEach (e :: es) X.env)).any (·.1) || (backToKw pos (keywordEach kws X.env)).any (·.1.isNone)) = false := by rfl) : EI X W (.Call (.Name x p) (e :: es) kws pos) (eCallG F gD fas fak) :=
  let ⟨_, h1, h2⟩ := h.ok
  ei_callG h1 (hr.mono hj) tk hg h.gl h.kp h2 hgl ha hkw hn hl hall hks hdb he hpl
theorem ei_fk {j : Nat} (h : HasG X.prog X.w X.K X.mg X.base j x f ps 0 ks gD F) (hr : Room k X.A) (tk : Takes X W) (hj : j ≤ k) (hgl : ∀ xs ys, xs.length = 0 → ys.length = ks.length → (gD xs ys).length = ps.length) (hkw : KI X W kws fak) (hl : AxN ks.length fak) (hg : Gl X x := by rfl)
    (hall : (backToKw pos (keywordEach kws X.env)).all (·.1.isSome) = true := by rfl) (hks : (backToKw pos (keywordEach kws X.env)).filterMap (·.1) = ks := by rfl)
    (hdb : (x == ("__debug__" : Str)) = false := by decide) (hpl : ((backTo pos (starEach [] X.env)).any (·.1) || (backToKw pos (keywordEach kws X.env)).any (·.1.isNone)) = false := by rfl) : EI X W (.Call (.Name x p) [] kws pos) (eCallG F gD aNil fak) :=
  let ⟨_, h1, h2⟩ := h.ok
  ei_callG0 h1 (hr.mono hj) tk hg h.gl h.kp h2 hgl hkw hl hall hks hdb hpl
theorem ei_mk {j : Nat} {C : String} (h : HasM X.prog X.w X.K X.mg X.base j C ps n ks gD F) (hr : Room k X.A) (tk : Takes X W) (hj : j + 1 ≤ k) (hself : ∀ s xs ys, gD (s :: xs) ys = s :: g xs ys) (hgl : ∀ xs ys, xs.length = n → ys.length = ks.length → (g xs ys).length + 1 = ps.length)
    (ha : AI X W (e :: es) fas) (hkw : KI X W kws fak) (hn : AxN n fas) (hl : AxN ks.length fak) (hg : Gl X (Str.ofString C) := by rfl) (hall : (backToKw pos (keywordEach kws X.env)).all (·.1.isSome) = true := by rfl) (hks : (backToKw pos (keywordEach kws X.env)).filterMap (·.1) = ks := by rfl)
    (hdb : (Str.ofString C == ("__debug__" : Str)) = false := by decide) (he : starEach (e :: es) X.env = (false, eval e X.env) :: starEach es X.env := by rfl)
    (hpl : ((backTo pos (starEach (e :: es) X.env)).any (·.1) || (backToKw pos (keywordEach kws X.env)).any (·.1.isNone)) = false := by rfl) : EI X W (.Call (.Name (Str.ofString C) p) (e :: es) kws pos) (eMake C F g fas fak) :=
  let ⟨_, _, h0, h1, h2⟩ := h.ok
  ei_make C h0 h1 (hr.mono hj) tk hg h.gl h2 hself hgl ha hkw hn hl hall hks hdb he hpl
/-! built-ins -/
section
variable (hpl : (backTo pos (starEach es X.env)).any (·.1) = false)
theorem ei_len (hm : X.mg "len" = none) (ha : AI X W [e] fas) (hg : Gl X "len" := by rfl) (he : starEach [e] X.env = (false, eval e X.env) :: starEach [] X.env := by rfl) : EI X W (.Call (.Name "len" p) [e] [] pos) (eC1 cLen fas) := ei_callB call_len cs_len hg hm boot_len ha (he := he)
theorem ei_abs (hm : X.mg "abs" = none) (ha : AI X W [e] fas) (hg : Gl X "abs" := by rfl) (he : starEach [e] X.env = (false, eval e X.env) :: starEach [] X.env := by rfl) : EI X W (.Call (.Name "abs" p) [e] [] pos) (eC1 cAbs fas) := ei_callB call_abs cs_abs hg hm boot_abs ha (he := he)
theorem ei_intc (hm : X.mg "int" = none) (ha : AI X W [e] fas) (hg : Gl X "int" := by rfl) (he : starEach [e] X.env = (false, eval e X.env) :: starEach [] X.env := by rfl) : EI X W (.Call (.Name "int" p) [e] [] pos) (eC1 cInt fas) := ei_callTy call_int1 cs_int hg hm PyProof.Rows.boot_int ha (he := he)
theorem ei_tupc (hm : X.mg "tuple" = none) (ha : AI X W [e] fas) (hg : Gl X "tuple" := by rfl) (he : starEach [e] X.env = (false, eval e X.env) :: starEach [] X.env := by rfl) : EI X W (.Call (.Name "tuple" p) [e] [] pos) (eC1 cTuple fas) := ei_callTy call_tuple_of cs_tuple hg hm PyProof.Rows.boot_tuple ha (he := he)
theorem ei_lstc (hm : X.mg "list" = none) (ha : AI X W [e] fas) (hg : Gl X "list" := by rfl) (he : starEach [e] X.env = (false, eval e X.env) :: starEach [] X.env := by rfl) : EI X W (.Call (.Name "list" p) [e] [] pos) (eC1 cList fas) := ei_callTy call_list_of cs_list hg hm PyProof.Rows.boot_list ha (he := he)
theorem ei_sum (hc : X.calm = true) (hm : X.mg "sum" = none) (ha : AI X W [e] fas) (hg : Gl X "sum" := by rfl) (he : starEach [e] X.env = (false, eval e X.env) :: starEach [] X.env := by rfl) : EI X W (.Call (.Name "sum" p) [e] [] pos) (eC1 cSum fas) := ei_callB (cr_sum2 hc) cs_sum hg hm PyProof.Rows.boot_sum ha (he := he)
theorem ei_sorted (hm : X.mg "sorted" = none) (ha : AI X W [e] fas) (hg : Gl X "sorted" := by rfl) (he : starEach [e] X.env = (false, eval e X.env) :: starEach [] X.env := by rfl) : EI X W (.Call (.Name "sorted" p) [e] [] pos) (eC1 cSorted fas) := ei_callB cr_sortedI cs_sorted hg hm PyProof.Rows.boot_sorted ha (he := he)
theorem ei_min (hc : X.calm = true) (hm : X.mg "min" = none) (ha : AI X W [a, b] fas) (hg : Gl X "min" := by rfl) (he : starEach [a, b] X.env = (false, eval a X.env) :: starEach [b] X.env := by rfl) (hpl : (backTo pos (starEach [b] X.env)).any (·.1) = false := by rfl) : EI X W (.Call (.Name "min" p) [a, b] [] pos) (eC1 cMin fas) := ei_callB (call_min2 hc) cs_min hg hm PyProof.Rows.boot_min ha (he := he) (hpl := hpl)
theorem ei_max (hc : X.calm = true) (hm : X.mg "max" = none) (ha : AI X W [a, b] fas) (hg : Gl X "max" := by rfl) (he : starEach [a, b] X.env = (false, eval a X.env) :: starEach [b] X.env := by rfl) (hpl : (backTo pos (starEach [b] X.env)).any (·.1) = false := by rfl) : EI X W (.Call (.Name "max" p) [a, b] [] pos) (eC1 cMax fas) := ei_callB (call_max2 hc) cs_max hg hm PyProof.Rows.boot_max ha (he := he) (hpl := hpl)
theorem ei_isi (O : POk X.K P) (hm : X.mg "isinstance" = none) (ha : AI X W [a, b] fas) (hg : Gl X "isinstance" := by rfl) (he : starEach [a, b] X.env = (false, eval a X.env) :: starEach [b] X.env := by rfl) (hpl : (backTo pos (starEach [b] X.env)).any (·.1) = false := by rfl) : EI X W (.Call (.Name "isinstance" p) [a, b] [] pos) (eC1 (cIsi P) fas) := ei_callB call_isD (cs_isi O) hg hm boot_isinstance ha (he := he) (hpl := hpl)
end
theorem ei_tyInt (hm : X.mg "int" = none) (hg : Gl X "int" := by rfl) : EI X W (.Name "int" p) (eC (.ty "int")) := ei_ty "int" hg hm PyProof.Rows.boot_int
theorem ei_tyBool (hm : X.mg "bool" = none) (hg : Gl X "bool" := by rfl) : EI X W (.Name "bool" p) (eC (.ty "bool")) := ei_ty "bool" hg hm PyProof.Rows.boot_bool
theorem ei_tyStr (hm : X.mg "str" = none) (hg : Gl X "str" := by rfl) : EI X W (.Name "str" p) (eC (.ty "str")) := ei_ty "str" hg hm PyProof.Rows.boot_str
theorem ei_tyTuple (hm : X.mg "tuple" = none) (hg : Gl X "tuple" := by rfl) : EI X W (.Name "tuple" p) (eC (.ty "tuple")) := ei_ty "tuple" hg hm PyProof.Rows.boot_tuple
theorem ei_tyList (hm : X.mg "list" = none) (hg : Gl X "list" := by rfl) : EI X W (.Name "list" p) (eC (.ty "list")) := ei_ty "list" hg hm PyProof.Rows.boot_list
theorem ei_own (C : String) (hm : X.mg (Str.ofString C) = some (.ref (gaC X.K C))) (hg : Gl X (Str.ofString C) := by rfl) (hd : (Str.ofString C == ("__debug__" : Str)) = false := by decide) : EI X W (.Name (Str.ofString C) p) (eC (.cls C)) := ei_cls C hg hm hd
theorem ei_ki {i : Int} (hm : ∃ t, X.mg x = some (.int i t)) (hg : Gl X x := by rfl) (hd : (x == ("__debug__" : Str)) = false := by decide) : EI X W (.Name x p) (eC (.int i)) := ei_gint hg hm hd
theorem ei_ks {z : Str} (hm : ∃ t, X.mg x = some (.str z t)) (hg : Gl X x := by rfl) (hd : (x == ("__debug__" : Str)) = false := by decide) : EI X W (.Name x p) (eC (.str z)) := ei_gstr hg hm hd
/-! *a in a display -/
theorem ai_star {q : Pos} (ha : EI X W e fa) (hr : AI X W es fas) (hs : starEach (.Starred e q :: es) X.env = (true, eval e X.env) :: starEach es X.env := by rfl) : AI X W (.Starred e q :: es) (aStar fa fas) := by
  refine paI (StX.pa_star ha hr hs) fun σ H Q ⟨env, G, m, st, er, S, w⟩ => ?_
  refine ⟨env, G, m, st, er, S, w.bnd.imp fun x st1 G1 m1 H1 t1 S1 w1 v rv => ?_⟩
  have key : ∀ {y : Addr} {us : List V} {xs : List D}, (SqT X.K H1 y us ∨ SqL X.K H1 y us) → RpL X.K m1 st1.length G1 us xs → Wp X.K G1 m1 st1.length ((fas env st1).bnd fun ys st2 => .ok (xs ++ ys) st2) (fun ds st' G' m' H' => ∀ vs, RpL X.K m' st'.length G' vs ds → Q vs H') (fun c dd H' => W c dd σ H') →
      ∃ a xs, V.ref y = .ref a ∧ (SqT X.K H1 a xs ∨ SqL X.K H1 a xs) ∧ tA X.K W fas σ H1 fun ys H2 => Q (xs ++ ys) H2 := by
    intro y us xs hq r w
    exact ⟨y, us, rfl, hq, env, G1, m1, st1, er.tr t1, S1, w.bnd.imp fun ys st2 G2 m2 H2 t2 S2 w2 vs rvs => w2.now S2 _ ((r.tr t2).app rvs)⟩
  split at w1
  · cases rv with
    | lst h1 h2 => exact key (.inr (SqL.of (S1.ex _ _ h1))) h2 w1
  · cases rv with
    | tup h1 h2 => exact key (.inl (same_t S1.ex h1)) h2 w1
  · cases rv with
    | scr h1 h2 => exact key (.inr (same_l S1.ex h1)) h2 w1
  · exact w1.elim
theorem axn_star : True := trivial
end
/-! ### binding -/
theorem vals_at : ∀ {vs : List V} {us : List Value} (i : Nat), Vals vs us → (∃ v u, vs[i]? = some v ∧ us[i]? = some u ∧ RelV v u) ∨ (vs[i]? = none ∧ us[i]? = none)
  | _, _, _, .nil => .inr ⟨by simp, by simp⟩
  | _, _, 0, .cons r _ => .inl ⟨_, _, rfl, rfl, r⟩
  | _, _, i + 1, .cons _ r => by
    rcases vals_at i r with ⟨v, u, h1, h2, h3⟩ | ⟨h1, h2⟩
    · exact .inl ⟨v, u, by simpa using h1, by simpa using h2, h3⟩
    · exact .inr ⟨by simpa using h1, by simpa using h2⟩
theorem perm_vals {vs : List V} {us : List Value} (r : Vals vs us) : ∀ ix : List Nat, Vals (perm ix vs) (perm ix us)
  | [] => .nil
  | i :: ix => by
    unfold perm
    rw [List.filterMap_cons, List.filterMap_cons]
    rcases vals_at i r with ⟨v, u, h1, h2, h3⟩ | ⟨h1, h2⟩
    · rw [h1, h2]
      exact .cons h3 (perm_vals r ix)
    · rw [h1, h2]
      exact perm_vals r ix
theorem rpl_at {K : PySem.W.Frag} {m : Nat → Addr} {n : Nat} {G : Hp} {vs : List V} {ds : List D} (i : Nat) (r : RpL K m n G vs ds) : (∃ v d, vs[i]? = some v ∧ ds[i]? = some d ∧ Rp K m n G v d) ∨ (vs[i]? = none ∧ ds[i]? = none) := by
  cases h : ds[i]? with
  | none =>
    have hl := List.getElem?_eq_none_iff.mp h
    exact .inr ⟨List.getElem?_eq_none_iff.mpr (by rw [r.length]; exact hl), rfl⟩
  | some d =>
    obtain ⟨v, h1, h2⟩ := r.get h
    exact .inl ⟨v, d, h1, rfl, h2⟩
theorem perm_rel {K : PySem.W.Frag} {m : Nat → Addr} {n : Nat} {G : Hp} {vs : List V} {ds : List D} (r : RpL K m n G vs ds) : ∀ ix : List Nat, RpL K m n G (perm ix vs) (perm ix ds)
  | [] => .nil
  | i :: ix => by
    unfold perm
    rw [List.filterMap_cons, List.filterMap_cons]
    rcases rpl_at i r with ⟨v, d, h1, h2, h3⟩ | ⟨h1, h2⟩
    · rw [h1, h2]
      exact .cons h3 (perm_rel r ix)
    · rw [h1, h2]
      exact perm_rel r ix
section
variable {K : PySem.W.Frag} {x qual : Str} {params : Arguments} {body : List Stmt} {scope : Scope} {dvs : List V} {kws : List (Str × V)} {f : Addr} {fd : FuncData} {ps : List Str}
/-- no default is looked for -/
theorem kb2 (F : FunD K x qual params body scope [] kws f fd) (n : Nat) (ks : List Str) (ix : List Nat)
    (h : ∀ (kV doc pm : Value) (an : Option Addr) (cdv ct : Value) (us ws : List Value), us.length = n → ws.length = ks.length → bindArgs (PySem.W.fnOf x qual params body scope .none kV doc pm an cdv ct) ⟨us, ks.zip ws⟩ = pure (ps.zip (perm ix (us ++ ws)))) : KB K fd ps n ks (fun xs ys => perm ix (xs ++ ys)) := by
  obtain ⟨oc, od, dV, kV, doc, pm, an, cdv, ct, osl, rfl, lk, hcd, hDf, hK⟩ := F.ex
  rcases hDf with ⟨_, rfl⟩ | ⟨e, _⟩
  · exact ⟨fun us ws => perm ix (us ++ ws), fun vs zs => perm ix (vs ++ zs), ⟨fun s us ws X h1 h2 => .of_eq (h kV doc pm an cdv ct us ws h1 h2), fun r1 r2 => perm_vals (r1.append r2) ix⟩, fun r1 r2 => perm_rel (r1.app r2) ix⟩
  · exact absurd rfl e
/-- .. the positional ones -/
theorem kb3D (F : FunD K x qual params body scope dvs kws f fd) (n : Nat) (ks : List Str) (ix : List Nat) (dd : List D) (hd : dvs ≠ []) (rd : ∀ {m : Nat → Addr} {l : Nat} {G : Hp}, RpL K m l G dvs dd)
    (h : ∀ (T : Addr) (kV doc pm : Value) (an : Option Addr) (cdv ct : Value) (us its ws : List Value), us.length = n → its.length = dvs.length → ws.length = ks.length →
      ∃ k, bindArgs (PySem.W.fnOf x qual params body scope (.ref T) kV doc pm an cdv ct) ⟨us, ks.zip ws⟩ = seqItems? (.ref T) >>= k ∧ k (some its.toArray) = pure (ps.zip (perm ix (us ++ (its ++ ws))))) : KB K fd ps n ks (fun xs ys => perm ix (xs ++ (dd ++ ys))) := by
  obtain ⟨its, hb⟩ := F.kbindsD n ks (fun us its ws => perm ix (us ++ (its ++ ws))) hd (fun r1 r2 r3 => perm_vals (r1.append (r2.append r3)) ix) h
  exact ⟨_, _, hb, fun r1 r2 => perm_rel (r1.app (rd.app r2)) ix⟩
/-- .. the keyword-only ones -/
theorem kb3 (F : FunD K x qual params body scope [] kws f fd) (n : Nat) (ks : List Str) (ms : List (Str × V)) (ix : List Nat) (md : List D) (hk : kws ≠ []) (hms : ∀ q ∈ ms, q ∈ kws) (rm : ∀ {m : Nat → Addr} {l : Nat} {G : Hp}, RpL K m l G (ms.map (·.2)) md)
    (h : ∀ (D : Addr) (doc pm : Value) (an : Option Addr) (cdv ct : Value) (us mv ws : List Value), us.length = n → mv.length = ms.length → ws.length = ks.length →
      KwChain D ((ms.map (·.1)).zip mv) (bindArgs (PySem.W.fnOf x qual params body scope .none (.ref D) doc pm an cdv ct) ⟨us, ks.zip ws⟩) (ps.zip (perm ix (us ++ (mv ++ ws))))) : KB K fd ps n ks (fun xs ys => perm ix (xs ++ (md ++ ys))) := by
  obtain ⟨mv, hb⟩ := F.kbinds0 n ks ms (fun us mv ws => perm ix (us ++ (mv ++ ws))) hk hms (fun r1 r2 r3 => perm_vals (r1.append (r2.append r3)) ix) h
  exact ⟨_, _, hb, fun r1 r2 => perm_rel (r1.app (rm.app r2)) ix⟩
/-- .. both -/
theorem kb4 (F : FunD K x qual params body scope dvs kws f fd) (n : Nat) (ks : List Str) (ms : List (Str × V)) (ix : List Nat) (dd md : List D) (hd : dvs ≠ []) (hk : kws ≠ []) (hms : ∀ q ∈ ms, q ∈ kws) (rd : ∀ {m : Nat → Addr} {l : Nat} {G : Hp}, RpL K m l G dvs dd) (rm : ∀ {m : Nat → Addr} {l : Nat} {G : Hp}, RpL K m l G (ms.map (·.2)) md)
    (h : ∀ (T D : Addr) (doc pm : Value) (an : Option Addr) (cdv ct : Value) (us its mv ws : List Value), us.length = n → its.length = dvs.length → mv.length = ms.length → ws.length = ks.length →
      ∃ k, bindArgs (PySem.W.fnOf x qual params body scope (.ref T) (.ref D) doc pm an cdv ct) ⟨us, ks.zip ws⟩ = seqItems? (.ref T) >>= k ∧ KwChain D ((ms.map (·.1)).zip mv) (k (some its.toArray)) (ps.zip (perm ix (us ++ (its ++ (mv ++ ws)))))) : KB K fd ps n ks (fun xs ys => perm ix (xs ++ (dd ++ (md ++ ys)))) := by
  obtain ⟨its, mv, hb⟩ := F.kbinds n ks ms (fun us its mv ws => perm ix (us ++ (its ++ (mv ++ ws)))) hd hk hms (fun r1 r2 r3 r4 => perm_vals (r1.append (r2.append (r3.append r4))) ix) h
  exact ⟨_, _, hb, fun r1 r2 => perm_rel (r1.app (rd.app (rm.app r2))) ix⟩
end
/-- an empty tuple of the top -/
def kwdAt (f : Str × Option Str) (x : Str) (K : PySem.W.Frag) : Addr := match K.lookup (He.fAd K f) with
  | some ⟨_, _, .func fd, _⟩ => (match fd.kwdefaults with
    | .ref D => (match PySem.W.nsIn K D x with
      | some (some (.ref a)) => a
      | _ => 0)
    | _ => 0)
  | _ => 0
def emptyB (K : PySem.W.Frag) (a : Addr) : Bool := match K.lookup a with
  | some ⟨c, _, .seq its _, _⟩ => decide (c = .type "tuple") && its.isEmpty
  | _ => false
theorem emptyB_ok {K : PySem.W.Frag} {a : Addr} (h : emptyB K a = true) {m : Nat → Addr} {n : Nat} {G : Hp} : Rp K m n G (.ref a) (.tup []) := by
  unfold emptyB at h
  split at h
  · rename_i c od its k sl e
    obtain ⟨h1, h2⟩ := Bool.and_eq_true_iff.mp h
    have h1 := of_decide_eq_true h1
    subst h1
    have h2 := Array.isEmpty_iff.mp h2
    subst h2
    exact .tup (.inr ⟨_, #[], k, e, rfl, rfl, by simp, .nil⟩) .nil
  · cases h
end Cb

set_option Elab.async false
set_option linter.all false
set_option maxRecDepth 100000
set_option maxHeartbeats 4000000
/-! CbLive: new lists that are built further. -/
namespace Cb
open PySem PySem.Spec PyProof.Rows L2
section
variable {X : Cx} {W : WX} {a b c e : Expr} {es : List Expr} {fa fb fc : Ex} {pos p : Pos} {P : Pg} {s : Stmt} {ss ss' : List Stmt} {f : Sx}
theorem lcL_key {vs : List Nat} {K : PySem.W.Frag} {src : Ax} {g : Gx} {t : Tx} {fa : Ex} {σ : St} {H : Hp} {Q : VK} (h : tE K W (eLcL src g vs t fa) σ H Q) : tLc (tI K W src) (tG K vs g) (tT K W0 t) (tE K W0 fa) vs σ H Q := by
  obtain ⟨env, G, m, st, er, S, w⟩ := h
  refine ⟨env, G, m, st, er, S, w.bnd.imp fun ds st1 G1 m1 H1 t1 S1 w1 J hJ => fun Da hDa => ?_⟩
  generalize hr : lcL g t fa st1.length ds (wipeE env vs) (st1 ++ [.lst []]) = r at w1
  have S2 := S1.push (u := .lst []) (o := .lst []) hDa rfl ⟨S1.free hDa, [], upd_same, .nil⟩
  have t12 : Tr G1 m1 st1.length G1 (fun i => if i = st1.length then Da else m1 i) (st1 ++ [SO.lst []]).length := S1.trPush
  generalize hm2 : (fun i => if i = st1.length then Da else m1 i) = m2 at S2 t12
  have hD : m2 st1.length = Da := by rw [← hm2]; simp
  have hn2 : st1.length < (st1 ++ [SO.lst []]).length := by simp
  have er2 : ER K m2 (st1 ++ [SO.lst []]).length G1 (wipe σ vs) (wipeE env vs) := er_wipe ((er.tr t1).tr t12) vs
  refine ⟨fun i k H => i + k = ds.length ∧ ∃ G m st, Tr G1 m2 (st1 ++ [SO.lst []]).length G m st.length ∧ SR K G m st H ∧ lcL g t fa st1.length (ds.drop i) (wipeE env vs) st = r, ⟨ds.length, by omega, G1, m2, _, Tr.refl, S2, hr⟩,
    fun i k H3 ⟨hk, G3, m3, st3, t3, S3, e3⟩ => ?_⟩
  have hD3 : m3 st1.length = Da := by rw [t3.mm _ hn2, hD]
  have hlen : st1.length < st3.length := Nat.lt_of_lt_of_le hn2 t3.le
  have t13 : Tr G1 m1 st1.length G3 m3 st3.length := t12.trans t3
  cases k with
  | zero =>
    left
    rw [List.drop_eq_nil_of_le (by omega), lcL] at e3
    refine ⟨(hJ i _ _ _ _ t13 S3).2 (by omega), ?_⟩
    split at e3
    · rename_i acc ha
      subst e3
      have w2 := w1
      dsimp only [Cb.R.bnd] at w2
      have hl : (st3.take (st1.length + 1)).length = st1.length + 1 := by rw [List.length_take]; omega
      have S5 := S3.take (st1.length + 1)
      refine w2 G3 m3 H3 ⟨t13.ex, t13.mm, by rw [hl]; omega⟩ S5 _ ?_
      rw [← hD3]
      exact .ref (by rw [hl]; omega)
    · subst e3
      exact (show False from w1).elim
  | succ k =>
    right
    have hlt : i < ds.length := by omega
    have hd : ds[i]? = some ds[i] := List.getElem?_eq_getElem hlt
    obtain ⟨hgo, hy⟩ := (hJ i _ _ _ _ t13 S3).1 _ hd
    rw [drop_cons hd, lcL] at e3
    refine ⟨hgo, fun H' => i + 1 + k = ds.length ∧ ∃ G m st, Tr G1 m2 (st1 ++ [SO.lst []]).length G m st.length ∧ SR K G m st H' ∧ lcL g t fa st1.length (ds.drop (i + 1)) (wipeE env vs) st = r, fun H' h => ⟨k, by omega, h⟩, fun x H4 hx => ?_⟩
    obtain ⟨G4, t4, S4, r4⟩ := hy x H4 hx
    have bad : r ≠ .bad := fun z => by
      rw [z] at w1
      exact w1
    cases hgd : g ds[i] (wipeE env vs) with
    | none =>
      rw [hgd] at e3
      exact absurd e3.symm bad
    | some env4 =>
      rw [hgd] at e3
      refine ⟨_, G4, m3, st3, ds[i], env4, (er2.tr t3).tr t4, S4, r4, hgd, fun σ4 er4 hw => ⟨?_, env4, G4, m3, st3, er4, S4, ?_⟩⟩
      · rw [hw]
        exact wipe_in vs fun u h => h
      · dsimp only at e3
        cases hte : t env4 st3 with
        | bad =>
          rw [hte] at e3
          exact absurd e3.symm bad
        | exc C fs xs st5 =>
          rw [hte] at e3
          exact absurd e3.symm bad
        | ok q st5 =>
          rw [hte] at e3
          intro G5 m5 H5 t5 S5
          have t15 : Tr G1 m2 (st1 ++ [SO.lst []]).length G5 m5 st5.length := (t3.trans t4).trans t5
          dsimp only
          cases q with
          | false =>
            rw [if_neg Bool.false_ne_true]
            exact ⟨by omega, G5, m5, st5, t15, S5, e3⟩
          | true =>
            rw [if_pos rfl]
            refine ⟨env4, G5, m5, st5, er4.tr t5, S5, ?_⟩
            dsimp only at e3
            cases hfe : fa env4 st5 with
            | bad =>
              rw [hfe] at e3
              exact absurd e3.symm bad
            | exc C fs xs st6 =>
              rw [hfe] at e3
              exact absurd e3.symm bad
            | ok d st6 =>
              rw [hfe] at e3
              intro G6 m6 H6 t6 S6 v rv
              dsimp only at e3
              split at e3
              · rename_i acc ha
                split at e3
                · rename_i hcd
                  obtain ⟨g6, us, hu, rl⟩ := S6.at_ _ _ ha
                  have t16 := t15.trans t6
                  have hD6 : m6 st1.length = Da := by rw [t16.mm _ hn2, hD]
                  rw [hD6] at hu g6
                  refine ⟨us, hu, by rw [rl.length]; exact Nat.lt_of_lt_of_le hcd.2 big, by omega, G6, m6, _, t16.trans S6.trSet, ?_, e3⟩
                  have S7 := S6.set (i := st1.length) (o' := .lst (acc ++ [d])) (u := .lst (us ++ [v])) ha rfl ⟨by rw [hD6]; exact g6, _, upd_same, rl.app (RpL.one (rv.gnd d v hcd.1))⟩
                  rw [hD6] at S7
                  exact S7
                · exact absurd e3.symm bad
              · exact absurd e3.symm bad
theorem ei_lcL {tg iter : Expr} {ifs : List Expr} {scope : Scope} {own : List (Str × Nat)} {src : Ax} {g : Gx} {t : Tx} (hc : X.calm = true) (hN : X.N.Nodup) (hi : II X W tg iter src) (ok : BlkOk X.N X.env.scope scope own)
    (hg : ∀ (s : Shared) (H : Hp) (C : Addr) (cl : List (Str × Addr)) (fp : List Addr), GI (X.blk s H scope (compEnvC scope cl C X.env) fp) (own.map (·.2)) tg g)
    (ht : ∀ (s : Shared) (H : Hp) (C : Addr) (cl : List (Str × Addr)) (fp : List Addr), TsI (X.blk s H scope (compEnvC scope cl C X.env) fp) ifs t)
    (he : ∀ (s : Shared) (H : Hp) (C : Addr) (cl : List (Str × Addr)) (fp : List Addr), EI (X.blk s H scope (compEnvC scope cl C X.env) fp) W0 e fa) (hs : ∀ x, foldedSetIterable iter X.env x = pure x := by intro _; rfl) :
    EI X W (.ListComp e [⟨tg, iter, ifs, 0⟩] scope pos) (eLcL src g (own.map (·.2)) t fa) := by
  exact peI (pe_lc (g := tG X.K (own.map (·.2)) g) (tt := tT X.K W0 t) (te := tE X.K W0 fa) hc hN hi ok hg ht he hs) fun _ _ _ h => lcL_key h
/-- name = [..] -/
theorem si_setLcL (i : Nat) {y : Str} {py : Pos} {spos : Pos} {tg iter : Expr} {ifs : List Expr} {scope : Scope} {own : List (Str × Nat)} {src : Ax} {g : Gx} {t : Tx} (hc : X.calm = true) (hN : X.N.Nodup) (hi : II X W tg iter src) (ok : BlkOk X.N X.env.scope scope own)
    (hg : ∀ (s : Shared) (H : Hp) (C : Addr) (cl : List (Str × Addr)) (fp : List Addr), GI (X.blk s H scope (compEnvC scope cl C X.env) fp) (own.map (·.2)) tg g)
    (ht : ∀ (s : Shared) (H : Hp) (C : Addr) (cl : List (Str × Addr)) (fp : List Addr), TsI (X.blk s H scope (compEnvC scope cl C X.env) fp) ifs t)
    (he : ∀ (s : Shared) (H : Hp) (C : Addr) (cl : List (Str × Addr)) (fp : List Addr), EI (X.blk s H scope (compEnvC scope cl C X.env) fp) W0 e fa)
    (hsw : swapsWith (.ListComp e [⟨tg, iter, ifs, 0⟩] scope pos) (some (.Name y py)) spos.line X.env = pure true) (hy : X.N[i]? = some y := by rfl) (hyl : X.env.scope.names.lookup y = some .local := by rfl) (hs : ∀ x, foldedSetIterable iter X.env x = pure x := by intro _; rfl) :
    SI X W (.Assign [.Name y py] (.ListComp e [⟨tg, iter, ifs, 0⟩] scope pos) spos) (sAsg (eLcL src g (own.map (·.2)) t fa) (gName i)) := by
  refine psI (ps_setLc (g := tG X.K (own.map (·.2)) g) (tt := tT X.K W0 t) (te := tE X.K W0 fa) hc hN hy hyl hsw hi ok hg ht he hs) fun D σ H ⟨env, G, m, st, er, S, w⟩ => ?_
  refine lcL_key ⟨env, G, m, st, er, S, (WS.st er w).imp fun x st1 G1 m1 H1 t1 S1 w1 v rv => ?_⟩
  exact (show WS X.K G1 m1 st1.length (.ok (.nx (env.set i (some x))) st1) _ _ from w1).now S1 _ ((er.tr t1).set i rv)
theorem ei_addL (ha : EI X W a fa) (hb : EI X W b fb) : EI X W (.BinOp a .Add b pos) (eAddL fa fb) := by
  refine peI (pe_op op_cat ha hb) fun σ H Q ⟨env, G, m, st, er, S, w⟩ => ?_
  refine ⟨env, G, m, st, er, S, w.bnd.imp fun x st1 G1 m1 H1 t1 S1 w1 v rv => ?_⟩
  refine ⟨env, G1, m1, st1, er.tr t1, S1, w1.bnd.imp fun y st2 G2 m2 H2 t2 S2 w2 u ru => ?_⟩
  split at w2
  · rename_i xs ys hx hy
    split at w2
    · rename_i hc
      obtain ⟨p, vs, rfl, h1, r1⟩ := view_lst S2 (rv.tr t2) hx
      obtain ⟨q, us, rfl, h2, r2⟩ := view_lst S2 ru hy
      refine ⟨p, q, vs, us, rfl, rfl, h1, h2, by rw [r1.length, r2.length]; exact le_line hc.1, fun z hz => ?_⟩
      have S3 := S2.push (u := .lst (vs ++ us)) (o := .lst (xs ++ ys)) hz rfl ⟨S2.free hz, _, upd_same, (r1.gnd xs vs hc.2.1).app (r2.gnd ys us hc.2.2)⟩
      refine w2 G2 _ _ S2.trPush S3 _ ?_
      have q := Rp.ref (K := X.K) (m := fun i => if i = st2.length then z else m2 i) (n := (st2 ++ [SO.lst (xs ++ ys)]).length) (G := G2) (i := st2.length) (by simp)
      simp only [if_true] at q
      exact q
    · exact w2.elim
  · exact w2.elim
end
end Cb

set_option Elab.async false
set_option linter.all false
set_option maxRecDepth 100000
set_option maxHeartbeats 4000000
/-! CbEnd: the law's call. -/
namespace Cb
open PySem PySem.Spec PyProof.Rows L2
theorem fn0 {P : Program} {w : World} {K : PySem.W.Frag} {mg : Str → Option Value} {base : Heap} {k n : Nat} {f : Addr} {fd : FuncData} {ps : List Str} {F : Fn} (h : FnOk P w K mg base (L2.CX P w) k f fd ps (spI K F n)) :
    FnOk P w K mg base CX0 k f fd ps (fun vs H Q _ => spI K F n vs H Q fun _ _ _ => False) := by
  refine ⟨fun vs H Q E q => h.len vs H Q _ q, fun A outer s H args us vs Q E hr he hb hv hs => codeAny_mono (h.run A outer s H args us vs Q _ hr he hb hv hs) fun r s' q => ?_⟩
  cases r with
  | error e =>
    obtain ⟨_, _, _, _, _, _, _, _, _, _, _, _, z⟩ := (show L2.CX P w outer H s (fun _ _ _ => False) e s' from q)
    exact z.elim
  | ok fl =>
    cases fl with
    | ret u => exact q
    | next => exact q
    | brk => exact q
    | cont => exact q
theorem law_sp {K : PySem.W.Frag} {H : Hp} {a : Addr} {ns : List Int} {F : Fn} {st : Sto} (hS : SqL K H a (ns.map V.int)) (h : F [.scr (ns.map D.int)] [] = .ok (.bl true) st) : spI K F 1 [.ref a] H (fun v _ => v = .bl true) fun _ _ _ => False := by
  refine ⟨H, fun _ => 0, [], [.scr (ns.map D.int)], ⟨Same.refl _, fun n o e => by simp at e, fun i j o p e => by simp at e⟩, .cons (.scr hS (rel_ints ns)) .nil, rfl, ?_⟩
  rw [h]
  intro G' m' H' _ _ v rv
  cases rv
  rfl
end Cb

set_option Elab.async false
set_option linter.all false
set_option maxRecDepth 100000
set_option maxHeartbeats 4000000
/-! CbHook: the head's facts over a written list of addresses. -/
namespace Cb
open PySem PySem.Spec PyProof.Rows L2 He
/-- addresses by their distance from the first def's -/
def asR (x : Str) (os : List Nat) (g : Addr → Option Obj) : List Addr := mainGlobals :: os.map fun o => ga (frG g [mainGlobals]) x + o - 1000
def obsA (as : List Addr) (fa : List Fa) (fn : List DefD) (ex : PySem.W.Frag → Bool) (g : Addr → Option Obj) : AlD × Bool := (obsD fa fn (frG g as), ex (frG g as))
structure SaysA (fa : List Fa) (fn : List DefD) (ex : PySem.W.Frag → Bool) (K : PySem.W.Frag) : Prop where
  d : SaysD fa fn K
  more : ex K = true
def hookA (as : (Addr → Option Obj) → List Addr) (fa : List Fa) (fn : List DefD) (ex : PySem.W.Frag → Bool) : PySem.W.Hook where
  α := AlD × Bool
  obs := fun s => obsA (as s.heap.get?) fa fn ex s.heap.get?
  val := fun _ => (valD fn, true)
  says := fun _ h => ∃ K : PySem.W.Frag, K.In h ∧ SaysA fa fn ex K
  of := fun _ _ e => ⟨_, frG_in, congrArg (fun z : AlD × Bool => z.1) e, congrArg (fun z : AlD × Bool => z.2) e⟩
  keeps := fun _ _ _ ⟨K, hK, c⟩ k => ⟨K, PySem.W.Frag.In.keeps hK k, c⟩
theorem obsA_eq {as : (Addr → Option Obj) → List Addr} {fa : List Fa} {fn : List DefD} {ex : PySem.W.Frag → Bool} {g : Addr → Option Obj} {s : Shared} (h : ∀ a, g a = s.heap.get? a) : obsA (as g) fa fn ex g = (hookA as fa fn ex).obs s := by
  have e : g = s.heap.get? := funext h
  rw [e] <;> rfl
end Cb

set_option Elab.async false
set_option linter.all false
set_option maxRecDepth 100000
/-! CbEval: running the functional reading by simp; loops by invariants. -/
namespace Cb
open PySem (Str)
section
variable {α β : Type} (a : α) (st : Sto) (env : Env) (C : String) (fs : List String) (xs : List D)
@[simp] theorem bnd_ok (k : α → Sto → R β) : (R.ok a st).bnd k = k a st := rfl
@[simp] theorem bnd_bad (k : α → Sto → R β) : (R.bad : R α).bnd k = .bad := rfl
@[simp] theorem bnd_exc (k : α → Sto → R β) : (R.exc C fs xs st : R α).bnd k = .exc C fs xs st := rfl
@[simp] theorem st_ok (k : α → Sto → RS) : (R.ok a st).st env k = k a st := rfl
@[simp] theorem st_bad (k : α → Sto → RS) : (R.bad : R α).st env k = .bad := rfl
@[simp] theorem st_exc (k : α → Sto → RS) : (R.exc C fs xs st : R α).st env k = .exc C fs xs env st := rfl
@[simp] theorem of_some : R.of (some a) st = .ok a st := rfl
@[simp] theorem of_none : (R.of none st : R α) = .bad := rfl
end
/-! views -/
@[simp] theorem view_int (st : Sto) (i : Int) : view st (.int i) = .int i := rfl
@[simp] theorem view_bl (st : Sto) (i : Bool) : view st (.bl i) = .bl i := rfl
@[simp] theorem view_str (st : Sto) (i : Str) : view st (.str i) = .str i := rfl
@[simp] theorem view_non (st : Sto) : view st .non = .non := rfl
@[simp] theorem view_tup (st : Sto) (xs : List D) : view st (.tup xs) = .tup xs := rfl
@[simp] theorem view_lst0 (st : Sto) (xs : List D) : view st (.lst xs) = .lst xs := rfl
@[simp] theorem view_scr (st : Sto) (xs : List D) : view st (.scr xs) = .scr xs := rfl
@[simp] theorem view_obj (st : Sto) (C : String) (fs : List String) (xs : List D) : view st (.obj C fs xs) = .obj C fs xs := rfl
@[simp] theorem view_exn (st : Sto) (C : String) (fs : List String) (xs : List D) : view st (.exn C fs xs) = .exn C fs xs := rfl
@[simp] theorem view_cls (st : Sto) (C : String) : view st (.cls C) = .cls C := rfl
@[simp] theorem view_ty (st : Sto) (C : String) : view st (.ty C) = .ty C := rfl
theorem view_ref {st : Sto} {n : Nat} {xs : List D} (h : st[n]? = some (.lst xs)) : view st (.ref n) = .lst xs := by simp [view, h]
/-! expressions -/
section
variable (env : Env) (st : Sto)
@[simp] theorem eVar_ap (i : Nat) : eVar i env st = match env[i]? with
  | some (some d) => .ok d st
  | _ => .bad := rfl
@[simp] theorem eC_ap (d : D) : eC d env st = .ok d st := rfl
@[simp] theorem eU_ap (f : D → Option D) (a : Ex) : eU f a env st = (a env st).bnd fun x st1 => R.of (f (view st1 x)) st1 := rfl
@[simp] theorem eB_ap (f : D → D → Option D) (a b : Ex) : eB f a b env st = (a env st).bnd fun x st1 => (b env st1).bnd fun y st2 => R.of (f (view st2 x) (view st2 y)) st2 := rfl
@[simp] theorem eCh_ap (f g : D → D → Option D) (a b c : Ex) : eCh f g a b c env st = (a env st).bnd fun x st1 => (b env st1).bnd fun y st2 => match f (view st2 x) (view st2 y) with
  | some (.bl true) => (c env st2).bnd fun z st3 => R.of (g (view st3 y) (view st3 z)) st3
  | some (.bl false) => .ok (.bl false) st2
  | _ => .bad := rfl
@[simp] theorem eAnd_ap (a b : Ex) : eAnd a b env st = (a env st).bnd fun x st1 => match x with
  | .bl true => b env st1
  | .bl false => .ok (.bl false) st1
  | _ => .bad := rfl
@[simp] theorem eOr_ap (a b : Ex) : eOr a b env st = (a env st).bnd fun x st1 => match x with
  | .bl true => .ok (.bl true) st1
  | .bl false => b env st1
  | _ => .bad := rfl
@[simp] theorem eNot_ap (a : Ex) : eNot a env st = (a env st).bnd fun x st1 => match x with
  | .bl b => .ok (.bl (!b)) st1
  | _ => .bad := rfl
@[simp] theorem eIf_ap (c : Tx) (a b : Ex) : eIf c a b env st = (c env st).bnd fun t st1 => if t then a env st1 else b env st1 := rfl
@[simp] theorem aNil_ap : aNil env st = .ok [] st := rfl
@[simp] theorem aCons_ap (a : Ex) (as : Ax) : aCons a as env st = (a env st).bnd fun x st1 => (as env st1).bnd fun xs st2 => .ok (x :: xs) st2 := rfl
@[simp] theorem aStar_ap (a : Ex) (as : Ax) : aStar a as env st = (a env st).bnd fun x st1 => match x with
  | .lst xs => (as env st1).bnd fun ys st2 => .ok (xs ++ ys) st2
  | .tup xs => (as env st1).bnd fun ys st2 => .ok (xs ++ ys) st2
  | .scr xs => (as env st1).bnd fun ys st2 => .ok (xs ++ ys) st2
  | _ => .bad := rfl
@[simp] theorem eTup_ap (as : Ax) : eTup as env st = (as env st).bnd fun xs st1 => if xs.length ≤ 1000000 then .ok (.tup xs) st1 else .bad := rfl
@[simp] theorem eLst_ap (as : Ax) : eLst as env st = (as env st).bnd fun xs st1 => if xs.length ≤ 1000000 then .ok (.lst xs) st1 else .bad := rfl
@[simp] theorem eLstL_ap (as : Ax) : eLstL as env st = (as env st).bnd fun xs st1 => if xs.length ≤ 1000000 ∧ D.gnds xs = true then .ok (.ref st1.length) (st1 ++ [.lst xs]) else .bad := rfl
@[simp] theorem eCall_ap (F : Fn) (as : Ax) : eCall F as env st = (as env st).bnd F := rfl
@[simp] theorem eCallG_ap (F : Fn) (g : List D → List D → List D) (as ak : Ax) : eCallG F g as ak env st = (as env st).bnd fun xs st1 => (ak env st1).bnd fun ys st2 => F (g xs ys) st2 := rfl
@[simp] theorem eMake_ap (C : String) (F : Fn) (g : List D → List D → List D) (as ak : Ax) : eMake C F g as ak env st = (as env st).bnd fun xs st1 => (ak env st1).bnd fun ys st2 => mkD C F (g xs ys) st2 := rfl
@[simp] theorem eSl_ap (a : Ex) (lo hi : Env → Sto → R (Option Int)) : eSl a lo hi env st = (a env st).bnd fun x st1 => (lo env st1).bnd fun l st2 => (hi env st2).bnd fun h st3 => R.of (oSl (view st3 x) l h) st3 := rfl
@[simp] theorem pNone_ap : pNone env st = .ok none st := rfl
@[simp] theorem pSome_ap (a : Ex) : pSome a env st = (a env st).bnd fun x st1 => match x with
  | .int i => .ok (some i) st1
  | _ => .bad := rfl
@[simp] theorem eC1_ap (f : List D → Option D) (as : Ax) : eC1 f as env st = (as env st).bnd fun xs st1 => R.of (f (xs.map (view st1))) st1 := rfl
@[simp] theorem eFld_ap (P : Pg) (a : Ex) (f : String) : eFld P a f env st = (a env st).bnd fun x st1 => match x with
  | .obj C fs xs => R.of (attrD P C f fs xs) st1
  | .exn C fs xs => if C ∈ P.exc ∧ (C, f) ∈ P.fld then R.of (fldD f fs xs) st1 else .bad
  | .ref n => (match st1[n]? with
    | some (.ins C fs xs) => R.of (attrD P C f fs xs) st1
    | _ => .bad)
  | _ => .bad := rfl
@[simp] theorem eAddL_ap (a b : Ex) : eAddL a b env st = (a env st).bnd fun x st1 => (b env st1).bnd fun y st2 => match view st2 x, view st2 y with
  | .lst xs, .lst ys => if xs.length + ys.length ≤ 1000000 ∧ D.gnds xs = true ∧ D.gnds ys = true then .ok (.ref st2.length) (st2 ++ [.lst (xs ++ ys)]) else .bad
  | _, _ => .bad := rfl
@[simp] theorem eLc_ap (src : Ax) (g : Gx) (own : List Nat) (c : Tx) (e : Ex) : eLc src g own c e env st = (src env st).bnd fun ds st1 => (lcL g c e st1.length ds (wipeE env own) (st1 ++ [.lst []])).bnd fun xs st2 => .ok (.lst xs) (st2.take st1.length) := rfl
@[simp] theorem eLcL_ap (src : Ax) (g : Gx) (own : List Nat) (c : Tx) (e : Ex) : eLcL src g own c e env st = (src env st).bnd fun ds st1 => (lcL g c e st1.length ds (wipeE env own) (st1 ++ [.lst []])).bnd fun _ st2 => .ok (.ref st1.length) (st2.take (st1.length + 1)) := rfl
@[simp] theorem eBad_ap : eBad env st = .bad := rfl
/-! tests -/
@[simp] theorem tB_ap (a : Ex) : tB a env st = (a env st).bnd fun x st1 => match x with
  | .bl b => .ok b st1
  | _ => .bad := rfl
@[simp] theorem tAnd_ap (a b : Tx) : tAnd a b env st = (a env st).bnd fun x st1 => if x then b env st1 else .ok false st1 := rfl
@[simp] theorem tOr_ap (a b : Tx) : tOr a b env st = (a env st).bnd fun x st1 => if x then .ok true st1 else b env st1 := rfl
@[simp] theorem tNot_ap (a : Tx) : tNot a env st = (a env st).bnd fun x st1 => .ok (!x) st1 := rfl
@[simp] theorem tYes_ap : tYes env st = .ok true st := rfl
/-! targets -/
@[simp] theorem gName_ap (i : Nat) (d : D) : gName i d env = some (env.set i (some d)) := rfl
@[simp] theorem gNil_ap : gNil [] env = some env := rfl
@[simp] theorem gCons_ap (g : Gx) (gs : List D → Env → Option Env) (d : D) (r : List D) : gCons g gs (d :: r) env = (g d env).bind (gs r) := rfl
@[simp] theorem gTup_ap (gs : List D → Env → Option Env) (ds : List D) : gTup gs (.tup ds) env = gs ds env := rfl
/-! iterations -/
@[simp] theorem iAny_ap (a : Ex) : iAny a env st = (a env st).bnd fun x st1 => match x with
  | .lst xs => .ok xs st1
  | .scr xs => .ok xs st1
  | .tup xs => .ok xs st1
  | .str z => .ok (z.cps.toList.map fun c => D.str ⟨#[c]⟩) st1
  | _ => .bad := rfl
@[simp] theorem iEnum_ap (a : Ex) : iEnum a env st = (a env st).bnd fun x st1 => match x with
  | .lst xs => .ok (enumD 0 xs) st1
  | .tup xs => .ok (enumD 0 xs) st1
  | _ => .bad := rfl
@[simp] theorem iRng1_ap (as : Ax) : iRng1 as env st = (as env st).bnd fun xs st1 => match xs with
  | [.int j] => if -1000000 ≤ j ∧ j ≤ 1000000 then .ok (rgD 0 j) st1 else .bad
  | _ => .bad := rfl
@[simp] theorem iRng2_ap (as : Ax) : iRng2 as env st = (as env st).bnd fun xs st1 => match xs with
  | [.int i, .int j] => if -1000000 ≤ i ∧ i ≤ 1000000 ∧ -1000000 ≤ j ∧ j ≤ 1000000 then .ok (rgD i j) st1 else .bad
  | _ => .bad := rfl
@[simp] theorem iRng3_ap (as : Ax) : iRng3 as env st = (as env st).bnd fun xs st1 => match xs with
  | [.int i, .int j, .int k] => if 0 < k ∧ k ≤ 1000 ∧ -1000000 ≤ i ∧ i ≤ 1000000 ∧ -1000000 ≤ j ∧ j ≤ 1000000 then .ok (rg3D i j k) st1 else .bad
  | _ => .bad := rfl
/-! statements -/
@[simp] theorem sNil_ap : sNil env st = .ok (.nx env) st := rfl
@[simp] theorem sSeq_ap (a b : Sx) : sSeq a b env st = match a env st with
  | .ok (.nx env1) st1 => b env1 st1
  | r => r := rfl
@[simp] theorem sIf_ap (c : Tx) (a b : Sx) : sIf c a b env st = (c env st).st env fun t st1 => if t then a env st1 else b env st1 := rfl
@[simp] theorem sRet_ap (a : Ex) : sRet a env st = (a env st).st env fun d st1 => .ok (.rt d) st1 := rfl
@[simp] theorem sBreak_ap : sBreak env st = .ok (.bk env) st := rfl
@[simp] theorem sCont_ap : sCont env st = .ok (.ct env) st := rfl
@[simp] theorem sDrop_ap (a : Ex) : sDrop a env st = (a env st).st env fun _ st1 => .ok (.nx env) st1 := rfl
@[simp] theorem sAsg_ap (a : Ex) (g : Gx) : sAsg a g env st = (a env st).st env fun d st1 => match g d env with
  | some env1 => .ok (.nx env1) st1
  | none => .bad := rfl
@[simp] theorem sFrz_ap (i : Nat) : sFrz i env st = match env[i]? with
  | some (some (.ref n)) => (match st[n]? with
    | some (.lst xs) => .ok (.nx (env.set i (some (.lst xs)))) (st.set n .dead)
    | _ => .bad)
  | _ => .bad := rfl
@[simp] theorem sFld_ap (P : Pg) (i : Nat) (f : String) (a : Ex) : sFld P i f a env st = (a env st).st env fun d st1 => match env[i]? with
  | some (some (.ref n)) => (match st1[n]? with
    | some (.ins C fs xs) => if d.gnd = true ∧ fs.length < 1000 ∧ f ∉ fs ∧ C ∈ P.own ∧ (C, f) ∈ P.fld then .ok (.nx env) (st1.set n (.ins C (fs ++ [f]) (xs ++ [d]))) else .bad
    | _ => .bad)
  | _ => .bad := rfl
@[simp] theorem sApp_ap (i : Nat) (a : Ex) : sApp i a env st = match env[i]? with
  | some (some (.ref n)) => (match st[n]? with
    | some (.lst _) => (a env st).st env fun d st1 => (match st1[n]? with
      | some (.lst xs) => if d.gnd = true ∧ xs.length < 1000000 then .ok (.nx env) (st1.set n (.lst (xs ++ [d]))) else .bad
      | _ => .bad)
    | _ => .bad)
  | _ => .bad := rfl
@[simp] theorem sSet_ap (i : Nat) (k a : Ex) : sSet i k a env st = (a env st).st env fun d st1 => match env[i]? with
  | some (some (.ref n)) => (k env st1).st env fun z st2 => (match z with
    | .int j => (match st2[n]? with
      | some (.lst xs) => (match ixD xs.length j with
        | some q => if d.gnd = true then .ok (.nx env) (st2.set n (.lst (xs.set q d))) else .bad
        | none => .bad)
      | _ => .bad)
    | _ => .bad)
  | _ => .bad := rfl
@[simp] theorem sFor_ap (src : Ax) (g : Gx) (b : Sx) : sFor src g b env st = (src env st).st env fun ds st1 => forL g b ds env st1 := rfl
@[simp] theorem sBad_ap : sBad env st = .bad := rfl
end
@[simp] theorem fnS_ap (fin : Nat → D → Sto → R D) (n slots : Nat) (b : Sx) (ds : List D) (st : Sto) : fnS fin n slots b ds st = if ds.length = n then (match b (ds.map some ++ List.replicate (slots - n) none) st with
  | .ok (.nx _) st1 => fin st.length .non st1
  | .ok (.rt d) st1 => fin st.length d st1
  | .exc C fs xs _ st1 => .exc C fs xs (st1.take st.length)
  | _ => .bad) else .bad := rfl
@[simp] theorem wipeE_nil (env : Env) : wipeE env [] = env := rfl
@[simp] theorem wipeE_cons (env : Env) (v : Nat) (vs : List Nat) : wipeE env (v :: vs) = (wipeE env vs).set v none := rfl
@[simp] theorem finR_int (b : Nat) (i : Int) (st : Sto) : finR b (.int i) st = .ok (.int i) (st.take b) := rfl
@[simp] theorem finR_bl (b : Nat) (i : Bool) (st : Sto) : finR b (.bl i) st = .ok (.bl i) (st.take b) := rfl
@[simp] theorem finR_str (b : Nat) (i : Str) (st : Sto) : finR b (.str i) st = .ok (.str i) (st.take b) := rfl
@[simp] theorem finR_non (b : Nat) (st : Sto) : finR b .non st = .ok .non (st.take b) := rfl
theorem finR_gnd {b : Nat} {d : D} {st : Sto} (h : d.gnd = true) : finR b d st = .ok d (st.take b) := by
  cases d <;> first | (simp [D.gnd] at h; done) | (simp [finR, h]; done) | rfl
theorem finR_ref {b k : Nat} {st : Sto} {xs : List D} (hk : ¬ k < b) (h : st[k]? = some (.lst xs)) : finR b (.ref k) st = .ok (.lst xs) (st.take b) := by simp [finR, hk, h]
theorem finL_ref {b k : Nat} {st : Sto} {xs : List D} (hk : ¬ k < b) (h : st[k]? = some (.lst xs)) : finL b (.ref k) st = .ok (.ref b) (st.take b ++ [.lst xs]) := by simp [finL, hk, h]
/-! operations -/
section
variable (i j : Int) (x y : Str) (a b : Bool)
@[simp] theorem oAdd_int : oAdd (.int i) (.int j) = some (.int (i + j)) := rfl
@[simp] theorem oSub_int : oSub (.int i) (.int j) = some (.int (i - j)) := rfl
@[simp] theorem oNeg_int : oNeg (.int i) = some (.int (-i)) := rfl
@[simp] theorem oLt_int : oLt (.int i) (.int j) = some (.bl (decide (i < j))) := rfl
@[simp] theorem oLe_int : oLe (.int i) (.int j) = some (.bl (decide (i ≤ j))) := rfl
@[simp] theorem oGt_int : oGt (.int i) (.int j) = some (.bl (decide (j < i))) := rfl
@[simp] theorem oGe_int : oGe (.int i) (.int j) = some (.bl (decide (j ≤ i))) := rfl
theorem oMod_pos (h : 0 < j) : oMod (.int i) (.int j) = some (.int (i % j)) := by simp [oMod, h]
theorem oDiv_pos (h : 0 < j) (h2 : j < 2 ^ 64) : oDiv (.int i) (.int j) = some (.int (i / j)) := by
  have : j.natAbs.log2 < 9000 := by
    have h3 : j.natAbs < 2 ^ 9000 := by
      have h4 : j.natAbs < 2 ^ 64 := by omega
      exact Nat.lt_of_lt_of_le h4 (Nat.pow_le_pow_right (by decide) (by decide))
    exact (Nat.log2_lt (by omega)).mpr h3
  simp [oDiv, h, this]
theorem oMul_r (h : -(2 ^ 64) < j) (h2 : j < 2 ^ 64) : oMul (.int i) (.int j) = some (.int (i * j)) := by
  have : mulOk i j = true := decide_eq_true (.inr (.inl ⟨h, h2⟩))
  simp [oMul, this]
theorem oMul_l (h : -(2 ^ 64) < i) (h2 : i < 2 ^ 64) : oMul (.int i) (.int j) = some (.int (i * j)) := by
  have : mulOk i j = true := decide_eq_true (.inl ⟨h, h2⟩)
  simp [oMul, this]
@[simp] theorem oEq_int : oEq (.int i) (.int j) = some (.bl (i == j)) := by simp [oEq, D.plain, D.eqv]
@[simp] theorem oNe_int : oNe (.int i) (.int j) = some (.bl (!(i == j))) := by simp [oNe, D.plain, D.eqv]
@[simp] theorem oEq_str : oEq (.str x) (.str y) = some (.bl (x == y)) := by simp [oEq, D.plain, D.eqv]
@[simp] theorem oNe_str : oNe (.str x) (.str y) = some (.bl (!(x == y))) := by simp [oNe, D.plain, D.eqv]
@[simp] theorem oEq_bl : oEq (.bl a) (.bl b) = some (.bl (a == b)) := by simp [oEq, D.plain, D.eqv]
@[simp] theorem oIsN_non : oIsN .non .non = some (.bl true) := rfl
@[simp] theorem oNotN_non : oNotN .non .non = some (.bl false) := rfl
@[simp] theorem oIsN_int : oIsN (.int i) .non = some (.bl false) := rfl
@[simp] theorem oNotN_int : oNotN (.int i) .non = some (.bl true) := rfl
@[simp] theorem oIsN_bl : oIsN (.bl a) .non = some (.bl false) := rfl
@[simp] theorem oIsN_str : oIsN (.str x) .non = some (.bl false) := rfl
@[simp] theorem oIsN_tup (xs : List D) : oIsN (.tup xs) .non = some (.bl false) := rfl
@[simp] theorem oIsN_lst (xs : List D) : oIsN (.lst xs) .non = some (.bl false) := rfl
@[simp] theorem oNotN_tup (xs : List D) : oNotN (.tup xs) .non = some (.bl true) := rfl
@[simp] theorem cLen_tup (xs : List D) : cLen [.tup xs] = some (.int xs.length) := rfl
@[simp] theorem cLen_lst (xs : List D) : cLen [.lst xs] = some (.int xs.length) := rfl
@[simp] theorem cLen_scr (xs : List D) : cLen [.scr xs] = some (.int xs.length) := rfl
@[simp] theorem cAbs_int : cAbs [.int i] = some (.int (if i < 0 then -i else i)) := rfl
@[simp] theorem cInt_int : cInt [.int i] = some (.int i) := rfl
@[simp] theorem cMin_int : cMin [.int i, .int j] = some (.int (if j < i then j else i)) := rfl
@[simp] theorem cMax_int : cMax [.int i, .int j] = some (.int (if j > i then j else i)) := rfl
@[simp] theorem cTuple_lst (xs : List D) : cTuple [.lst xs] = some (.tup xs) := rfl
@[simp] theorem cTuple_tup (xs : List D) : cTuple [.tup xs] = some (.tup xs) := rfl
theorem ixD_nat {n k : Nat} (h : k < n) : ixD n (k : Int) = some k := by
  unfold ixD
  rw [if_pos (by omega), if_pos (by omega)]
  simp
theorem oIx_lst {xs : List D} {k : Nat} {d : D} (h : xs[k]? = some d) : oIx (.lst xs) (.int (k : Int)) = some d := by
  have hk := (List.getElem?_eq_some_iff.mp h).1
  simp only [oIx, ixD_nat hk, Option.bind_some, h]
theorem oIx_tup {xs : List D} {k : Nat} {d : D} (h : xs[k]? = some d) : oIx (.tup xs) (.int (k : Int)) = some d := by
  have hk := (List.getElem?_eq_some_iff.mp h).1
  simp only [oIx, ixD_nat hk, Option.bind_some, h]
end
theorem sIxD_nat (n d k : Nat) : sIxD n d (some (k : Int)) = min k n := by
  show (if (k : Int) < 0 then ((k : Int) + (n : Int)).toNat else min (k : Int).toNat n) = min k n
  rw [if_neg (by omega)]
  simp
theorem oSl_take (xs : List D) (k : Nat) : oSl (.lst xs) none (some (k : Int)) = some (.lst (xs.take k)) := by
  show some (D.lst ((xs.drop 0).take (sIxD xs.length xs.length (some (k : Int)) - 0))) = _
  rw [sIxD_nat, List.drop_zero]
  congr 2
  rw [Nat.sub_zero, ← List.take_take, List.take_length]
/-! loops -/
@[simp] theorem forL_nil (g : Gx) (b : Sx) (env : Env) (st : Sto) : forL g b [] env st = .ok (.nx env) st := rfl
theorem forL_ex {g : Gx} {b : Sx} {ds : List D} {I : Nat → Env → Sto → Prop} {Rt : D → Sto → Prop}
    (h : ∀ i d env st, ds[i]? = some d → I i env st → ∃ env1, g d env = some env1 ∧ ((∃ env2 st2, (b env1 st = .ok (.nx env2) st2 ∨ b env1 st = .ok (.ct env2) st2) ∧ I (i + 1) env2 st2) ∨ ∃ r st2, b env1 st = .ok (.rt r) st2 ∧ Rt r st2)) :
    ∀ {env st}, I 0 env st → (∃ env' st', forL g b ds env st = .ok (.nx env') st' ∧ I ds.length env' st') ∨ ∃ r st', forL g b ds env st = .ok (.rt r) st' ∧ Rt r st' := by
  have key : ∀ (n k : Nat) (env : Env) (st : Sto), k + n = ds.length → I k env st → (∃ env' st', forL g b (ds.drop k) env st = .ok (.nx env') st' ∧ I ds.length env' st') ∨ ∃ r st', forL g b (ds.drop k) env st = .ok (.rt r) st' ∧ Rt r st' := by
    intro n
    induction n with
    | zero =>
      intro k env st hk hI
      rw [List.drop_eq_nil_of_le (by omega)]
      have : k = ds.length := by omega
      exact .inl ⟨env, st, rfl, this ▸ hI⟩
    | succ n ih =>
      intro k env st hk hI
      have hlt : k < ds.length := by omega
      have hd : ds[k]? = some ds[k] := List.getElem?_eq_getElem hlt
      obtain ⟨env1, hg, h1⟩ := h k _ env st hd hI
      rw [List.drop_eq_getElem_cons hlt, forL, hg]
      dsimp only
      rcases h1 with ⟨env2, st2, hb, hI2⟩ | ⟨r, st2, hb, hR⟩
      · rcases hb with hb | hb
        · rw [hb]
          exact ih (k + 1) env2 st2 (by omega) hI2
        · rw [hb]
          exact ih (k + 1) env2 st2 (by omega) hI2
      · rw [hb]
        exact .inr ⟨r, st2, rfl, hR⟩
  intro env st hI
  have := key ds.length 0 env st (by omega) hI
  simpa using this
/-- no way out but the end -/
theorem forL_inv {g : Gx} {b : Sx} {ds : List D} {I : Nat → Env → Sto → Prop}
    (h : ∀ i d env st, ds[i]? = some d → I i env st → ∃ env1 env2 st2, g d env = some env1 ∧ b env1 st = .ok (.nx env2) st2 ∧ I (i + 1) env2 st2) {env : Env} {st : Sto} (h0 : I 0 env st) : ∃ env' st', forL g b ds env st = .ok (.nx env') st' ∧ I ds.length env' st' := by
  have := forL_ex (g := g) (b := b) (ds := ds) (I := I) (Rt := fun _ _ => False) (fun i d env st hd hI => by
    obtain ⟨env1, env2, st2, h1, h2, h3⟩ := h i d env st hd hI
    exact ⟨env1, h1, .inl ⟨env2, st2, .inl h2, h3⟩⟩) h0
  rcases this with h | ⟨_, _, _, h⟩
  · exact h
  · exact h.elim
/-- a comprehension whose items and tests leave the store as it is -/
theorem lcL_map {g : Gx} {c : Tx} {e : Ex} {env : Env} {st : Sto} {p : D → Bool} {h : D → D} : ∀ (ds acc : List D), acc.length + ds.length ≤ 1000000 →
    (∀ d ∈ ds, ∃ env1, g d env = some env1 ∧ ∀ acc : List D, c env1 (st ++ [.lst acc]) = .ok (p d) (st ++ [.lst acc]) ∧ (p d = true → e env1 (st ++ [.lst acc]) = .ok (h d) (st ++ [.lst acc]) ∧ (h d).gnd = true)) →
    lcL g c e st.length ds env (st ++ [.lst acc]) = .ok (acc ++ (ds.filter p).map h) (st ++ [.lst (acc ++ (ds.filter p).map h)])
  | [], acc, _, _ => by simp [lcL]
  | d :: ds, acc, hl, hd => by
    obtain ⟨env1, hg, hc⟩ := hd d List.mem_cons_self
    have hrest := fun x hx => hd x (List.mem_cons_of_mem _ hx)
    rw [lcL, hg]
    dsimp only
    rw [(hc acc).1]
    cases hp : p d with
    | false =>
      simp only [hp]
      rw [lcL_map ds acc (by simp at hl; omega) hrest, List.filter_cons, hp]
      simp
    | true =>
      simp only [hp]
      obtain ⟨h1, h2⟩ := (hc acc).2 hp
      rw [h1]
      have hlen : acc.length < 1000000 := by simp at hl; omega
      simp only [List.getElem?_concat_length, h2, hlen, and_self, if_true]
      rw [show (st ++ [SO.lst acc]).set st.length (.lst (acc ++ [h d])) = st ++ [.lst (acc ++ [h d])] by simp]
      rw [lcL_map ds (acc ++ [h d]) (by simp at hl ⊢; omega) hrest, List.filter_cons, hp]
      simp
end Cb

set_option Elab.async false
set_option linter.all false
set_option maxRecDepth 100000
/-! K09_F: the functional reading. -/
namespace K09
open Cb
open PySem (Str)
def pg : Pg := ⟨["Kind", "Rest", "Day", "Board", "Sheet"], [], [("Kind", "name"), ("Kind", "length"), ("Kind", "width"), ("Kind", "price"), ("Kind", "turns"), ("Rest", "name"), ("Rest", "length"), ("Rest", "width"), ("Rest", "cost"), ("Day", "orders"), ("Day", "supplies"), ("Board", "name"), ("Board", "length"), ("Board", "width"), ("Board", "cost"), ("Board", "trim"), ("Board", "faults"), ("Sheet", "kinds"), ("Sheet", "boards"), ("Sheet", "days"), ("Sheet", "rests"), ("Sheet", "kerf"), ("Sheet", "stages"), ("Sheet", "cut_cost")], [(("Sheet", "MOST_LOTS"), 256), (("Sheet", "MOST_BOARDS"), 12)], [(.inl "NoneType", .inl "bool", false), (.inl "NoneType", .inl "int", false), (.inl "NoneType", .inl "str", false), (.inl "NoneType", .inl "tuple", false), (.inl "NoneType", .inl "list", false), (.inl "bool", .inl "bool", true), (.inl "bool", .inl "int", true), (.inl "bool", .inl "str", false), (.inl "bool", .inl "tuple", false), (.inl "bool", .inl "list", false), (.inl "int", .inl "bool", false), (.inl "int", .inl "int", true), (.inl "int", .inl "str", false), (.inl "int", .inl "tuple", false), (.inl "int", .inl "list", false), (.inl "str", .inl "bool", false), (.inl "str", .inl "int", false), (.inl "str", .inl "str", true), (.inl "str", .inl "tuple", false), (.inl "str", .inl "list", false), (.inl "tuple", .inl "bool", false), (.inl "tuple", .inl "int", false), (.inl "tuple", .inl "str", false), (.inl "tuple", .inl "tuple", true), (.inl "tuple", .inl "list", false), (.inl "list", .inl "bool", false), (.inl "list", .inl "int", false), (.inl "list", .inl "str", false), (.inl "list", .inl "tuple", false), (.inl "list", .inl "list", true)]⟩
abbrev ps__law_pool : List Str := ["script"]
abbrev N__law_pool : List Str := ["script", "cells", "cell", "number", "k"]
def C__law_pool_0 : Ex := eC1 cAbs (aCons (eC1 cInt (aCons (eVar 2) (aNil))) (aNil))
def L__law_pool_0 : Sx := sIf (tB (eB oGe (eVar 2) (eB oPow (eC (.int 10)) (eC (.int 18))))) (sRet (eLstL (aCons (eVar 2) (aNil)))) (sNil)
def L__law_pool_1 : Sx := sAsg (eB oAdd (eB oAdd (eB oMul (eVar 3) (eC (.int 1000003))) (eVar 2)) (eC (.int 7))) (gName 3)
def L__law_pool_2 : Sx := sAsg (eB oAdd (eB oMul (eVar 3) (eB oAdd (eB oMod (eC1 cInt (aCons (eVar 3) (aNil))) (eC (.int 999983))) (eC (.int 48271)))) (eVar 4)) (gName 3)
def B__law_pool : Sx := sSeq (sAsg (eLc (iAny (eSl (eVar 0) (pNone) (pSome (eC (.int 63))))) (gName 2) [2] (tYes) ((C__law_pool_0))) (gName 1)) (sSeq (sFor (iAny (eVar 1)) (gName 2) ((L__law_pool_0))) (sSeq (sAsg (eB oAdd (eC (.int 5)) (eC1 cLen (aCons (eVar 1) (aNil)))) (gName 3)) (sSeq (sFor (iAny (eVar 1)) (gName 2) ((L__law_pool_1))) (sSeq (sFor (iRng1 (aCons (eC (.int 19)) (aNil))) (gName 4) ((L__law_pool_2))) (sRet (eLstL (aCons (eVar 3) (aNil))))))))
def F__law_pool : Fn := fnS finL 1 5 B__law_pool
abbrev ps__law_draw : List Str := ["p", "many"]
abbrev N__law_draw : List Str := ["p", "many", "digit"]
def B__law_draw : Sx := sSeq (sAsg (eB oMod (eC1 cInt (aCons (eB oIx (eVar 0) (eC (.int 0))) (aNil))) (eVar 1)) (gName 2)) (sSeq (sSet 0 (eC (.int 0)) (eB oDiv (eC1 cInt (aCons (eB oIx (eVar 0) (eC (.int 0))) (aNil))) (eVar 1))) (sRet (eVar 2)))
def F__law_draw : Fn := fnS finR 2 3 B__law_draw
abbrev ps__law_drawn : List Str := ["p"]
abbrev N__law_drawn : List Str := ["p", "many", "stages", "kinds", "k", "rests", "sides"]
def L__law_drawn_0 : Sx := sSeq (sAsg (eLst (aCons (eB oAdd (eC (.int 1)) (eCall (F__law_draw) (aCons (eVar 0) (aCons (eC (.int 5)) (aNil))))) (aCons (eB oAdd (eC (.int 1)) (eCall (F__law_draw) (aCons (eVar 0) (aCons (eC (.int 4)) (aNil))))) (aNil)))) (gName 6)) (sApp 3 (eB oAdd (eB oAdd (eLst (aCons (eB oIx (eC (.str "abcdef")) (eVar 4)) (aNil))) (eVar 6)) (eLst (aCons (eB oEq (eCall (F__law_draw) (aCons (eVar 0) (aCons (eC (.int 2)) (aNil)))) (eC (.int 1))) (aNil)))))
def L__law_drawn_1 : Sx := sApp 5 (eLst (aCons (eB oIx (eC (.str "rst")) (eVar 4)) (aCons (eB oAdd (eC (.int 1)) (eCall (F__law_draw) (aCons (eVar 0) (aCons (eC (.int 5)) (aNil))))) (aCons (eB oAdd (eC (.int 1)) (eCall (F__law_draw) (aCons (eVar 0) (aCons (eC (.int 4)) (aNil))))) (aNil)))))
def B__law_drawn : Sx := sSeq (sAsg (eLst (aCons (eB oAdd (eC (.int 1)) (eCall (F__law_draw) (aCons (eVar 0) (aCons (eC (.int 3)) (aNil))))) (aCons (eCall (F__law_draw) (aCons (eVar 0) (aCons (eC (.int 4)) (aNil)))) (aCons (eB oAdd (eC (.int 1)) (eCall (F__law_draw) (aCons (eVar 0) (aCons (eC (.int 3)) (aNil))))) (aNil))))) (gName 1)) (sSeq (sIf (tB (eB oEq (eCall (F__law_draw) (aCons (eVar 0) (aCons (eC (.int 8)) (aNil)))) (eC (.int 1)))) (sAsg (eLst (aCons (eC (.int 6)) (aCons (eC (.int 3)) (aCons (eC (.int 3)) (aNil))))) (gName 1)) (sNil)) (sSeq (sAsg (eB oIx (eLst (aCons (eC .non) (aCons (eC (.int 1)) (aCons (eC (.int 2)) (aCons (eC (.int 8)) (aNil)))))) (eCall (F__law_draw) (aCons (eVar 0) (aCons (eC (.int 4)) (aNil))))) (gName 2)) (sSeq (sAsg (eLstL (aNil)) (gName 3)) (sSeq (sFor (iRng1 (aCons (eB oIx (eVar 1) (eC (.int 0))) (aNil))) (gName 4) ((L__law_drawn_0))) (sSeq (sFrz 3) (sSeq (sAsg (eLstL (aNil)) (gName 5)) (sSeq (sFor (iRng1 (aCons (eB oIx (eVar 1) (eC (.int 1))) (aNil))) (gName 4) ((L__law_drawn_1))) (sSeq (sFrz 5) (sRet (eLst (aCons (eVar 3) (aCons (eVar 5) (aCons (eB oIx (eVar 1) (eC (.int 2))) (aCons (eVar 2) (aCons (eCall (F__law_draw) (aCons (eVar 0) (aCons (eC (.int 3)) (aNil)))) (aNil))))))))))))))))
def F__law_drawn : Fn := fnS finR 1 7 B__law_drawn
abbrev ps_is_name : List Str := ["text"]
abbrev N_is_name : List Str := ["text", "character"]
def L_is_name_0 : Sx := sIf (tB (eB oNotIn (eVar 1) (eC (.str "abcdefghijklmnopqrstuvwxyz0123456789")))) (sRet (eC (.bl false))) (sNil)
def B_is_name : Sx := sSeq (sIf (tNot (tB (eCh oLe oLe (eC (.int 1)) (eC1 cLen (aCons (eVar 0) (aNil))) (eC (.int 8))))) (sRet (eC (.bl false))) (sNil)) (sSeq (sIf (tB (eB oNotIn (eB oIx (eVar 0) (eC (.int 0))) (eC (.str "abcdefghijklmnopqrstuvwxyz")))) (sRet (eC (.bl false))) (sNil)) (sSeq (sFor (iAny (eVar 0)) (gName 1) ((L_is_name_0))) (sRet (eC (.bl true)))))
def F_is_name : Fn := fnS finR 1 2 B_is_name
abbrev ps_check_name : List Str := ["name"]
abbrev N_check_name : List Str := ["name"]
def B_check_name : Sx := sIf (tNot (tB (eCall (F_is_name) (aCons (eVar 0) (aNil))))) (sBad) (sNil)
def F_check_name : Fn := fnS finR 1 1 B_check_name
abbrev ps_in_range : List Str := ["what", "number", "low", "high"]
abbrev N_in_range : List Str := ["what", "number", "low", "high"]
def B_in_range : Sx := sIf (tNot (tB (eCh oLe oLe (eVar 2) (eVar 1) (eVar 3)))) (sBad) (sNil)
def F_in_range : Fn := fnS finR 4 4 B_in_range
abbrev ps_check_sides : List Str := ["length", "width"]
abbrev N_check_sides : List Str := ["length", "width"]
def B_check_sides : Sx := sSeq (sDrop (eCall (F_in_range) (aCons (eC (.str "length")) (aCons (eVar 0) (aCons (eC (.int 1)) (aCons (eC (.int 60)) (aNil))))))) (sDrop (eCall (F_in_range) (aCons (eC (.str "width")) (aCons (eVar 1) (aCons (eC (.int 1)) (aCons (eC (.int 60)) (aNil)))))))
def F_check_sides : Fn := fnS finR 2 2 B_check_sides
abbrev ps_init_Kind : List Str := ["self", "name", "length", "width", "price", "turns"]
abbrev N_init_Kind : List Str := ["self", "name", "length", "width", "price", "turns"]
def B_init_Kind : Sx := sSeq (sDrop (eCall (F_check_name) (aCons (eVar 1) (aNil)))) (sSeq (sDrop (eCall (F_check_sides) (aCons (eVar 2) (aCons (eVar 3) (aNil))))) (sSeq (sDrop (eCall (F_in_range) (aCons (eC (.str "price")) (aCons (eVar 4) (aCons (eC (.int 0)) (aCons (eC (.int 1000000000)) (aNil))))))) (sSeq (sFld pg 0 "name" (eVar 1)) (sSeq (sFld pg 0 "length" (eVar 2)) (sSeq (sFld pg 0 "width" (eVar 3)) (sSeq (sFld pg 0 "price" (eVar 4)) (sFld pg 0 "turns" (eVar 5))))))))
def F_init_Kind : Fn := fnS finR 6 6 B_init_Kind
abbrev ps_init_Rest : List Str := ["self", "name", "length", "width", "cost"]
abbrev N_init_Rest : List Str := ["self", "name", "length", "width", "cost"]
def B_init_Rest : Sx := sSeq (sDrop (eCall (F_check_name) (aCons (eVar 1) (aNil)))) (sSeq (sDrop (eCall (F_check_sides) (aCons (eVar 2) (aCons (eVar 3) (aNil))))) (sSeq (sDrop (eCall (F_in_range) (aCons (eC (.str "cost")) (aCons (eVar 4) (aCons (eC (.int 0)) (aCons (eC (.int 1000000000)) (aNil))))))) (sSeq (sDrop (eCall (F_in_range) (aCons (eC (.str "area")) (aCons (eB oMul (eVar 2) (eVar 3)) (aCons (eC (.int 1)) (aCons (eC (.int 120)) (aNil))))))) (sSeq (sFld pg 0 "name" (eVar 1)) (sSeq (sFld pg 0 "length" (eVar 2)) (sSeq (sFld pg 0 "width" (eVar 3)) (sFld pg 0 "cost" (eVar 4))))))))
def F_init_Rest : Fn := fnS finR 5 5 B_init_Rest
abbrev ps_init_Day : List Str := ["self", "orders", "supplies"]
abbrev N_init_Day : List Str := ["self", "orders", "supplies", "low", "high", "supply"]
def L_init_Day_0 : Sx := sSeq (sDrop (eCall (F_in_range) (aCons (eC (.str "high")) (aCons (eVar 4) (aCons (eC (.int 0)) (aCons (eC (.int 6)) (aNil))))))) (sDrop (eCall (F_in_range) (aCons (eC (.str "low")) (aCons (eVar 3) (aCons (eC (.int 0)) (aCons (eVar 4) (aNil)))))))
def L_init_Day_1 : Sx := sDrop (eCall (F_in_range) (aCons (eC (.str "supply")) (aCons (eVar 5) (aCons (eC (.int 0)) (aCons (eC (.int 6)) (aNil))))))
def C_init_Day_0 : Ex := eTup (aCons (eVar 3) (aCons (eVar 4) (aNil)))
def B_init_Day : Sx := sSeq (sFor (iAny (eVar 1)) (gTup (gCons (gName 3) (gCons (gName 4) (gNil)))) ((L_init_Day_0))) (sSeq (sFor (iAny (eVar 2)) (gName 5) ((L_init_Day_1))) (sSeq (sFld pg 0 "orders" (eC1 cTuple (aCons (eLc (iAny (eVar 1)) (gTup (gCons (gName 3) (gCons (gName 4) (gNil)))) [3, 4] (tYes) ((C_init_Day_0))) (aNil)))) (sFld pg 0 "supplies" (eC1 cTuple (aCons (eVar 2) (aNil))))))
def F_init_Day : Fn := fnS finR 3 6 B_init_Day
abbrev ps_ascending_cells : List Str := ["cells"]
abbrev N_ascending_cells : List Str := ["cells", "pairs", "x", "y", "at", "pair"]
def C_ascending_cells_0 : Ex := eTup (aCons (eVar 2) (aCons (eVar 3) (aNil)))
def C_ascending_cells_1 : Ex := eVar 5
def B_ascending_cells : Sx := sSeq (sAsg (eC1 cSorted (aCons (eLc (iAny (eVar 0)) (gTup (gCons (gName 2) (gCons (gName 3) (gNil)))) [2, 3] (tYes) ((C_ascending_cells_0))) (aNil))) (gName 1)) (sRet (eC1 cTuple (aCons (eLc (iEnum (eVar 1)) (gTup (gCons (gName 4) (gCons (gName 5) (gNil)))) [4, 5] (tOr (tB (eB oEq (eVar 4) (eC (.int 0)))) (tB (eB oNe (eVar 5) (eB oIx (eVar 1) (eB oSub (eVar 4) (eC (.int 1))))))) ((C_ascending_cells_1))) (aNil))))
def F_ascending_cells : Fn := fnS finR 1 6 B_ascending_cells
abbrev ps_init_Board : List Str := ["self", "name", "length", "width", "cost", "trim", "faults"]
abbrev N_init_Board : List Str := ["self", "name", "length", "width", "cost", "trim", "faults", "x", "y"]
def L_init_Board_0 : Sx := sIf (tNot (tAnd (tB (eCh oLe oLt (eC (.int 0)) (eVar 7) (eVar 2))) (tB (eCh oLe oLt (eC (.int 0)) (eVar 8) (eVar 3))))) (sBad) (sNil)
def B_init_Board : Sx := sSeq (sDrop (eCall (F_check_name) (aCons (eVar 1) (aNil)))) (sSeq (sDrop (eCall (F_check_sides) (aCons (eVar 2) (aCons (eVar 3) (aNil))))) (sSeq (sDrop (eCall (F_in_range) (aCons (eC (.str "cost")) (aCons (eVar 4) (aCons (eC (.int 0)) (aCons (eC (.int 1000000000)) (aNil))))))) (sSeq (sIf (tOr (tB (eB oLt (eVar 5) (eC (.int 0)))) (tOr (tB (eB oGe (eB oMul (eC (.int 2)) (eVar 5)) (eVar 2))) (tB (eB oGe (eB oMul (eC (.int 2)) (eVar 5)) (eVar 3))))) (sBad) (sNil)) (sSeq (sDrop (eCall (F_in_range) (aCons (eC (.str "area")) (aCons (eB oMul (eB oSub (eVar 2) (eB oMul (eC (.int 2)) (eVar 5))) (eB oSub (eVar 3) (eB oMul (eC (.int 2)) (eVar 5)))) (aCons (eC (.int 1)) (aCons (eC (.int 120)) (aNil))))))) (sSeq (sIf (tB (eB oGt (eC1 cLen (aCons (eVar 6) (aNil))) (eC (.int 4)))) (sBad) (sNil)) (sSeq (sFor (iAny (eVar 6)) (gTup (gCons (gName 7) (gCons (gName 8) (gNil)))) ((L_init_Board_0))) (sSeq (sFld pg 0 "name" (eVar 1)) (sSeq (sFld pg 0 "length" (eVar 2)) (sSeq (sFld pg 0 "width" (eVar 3)) (sSeq (sFld pg 0 "cost" (eVar 4)) (sSeq (sFld pg 0 "trim" (eVar 5)) (sFld pg 0 "faults" (eCall (F_ascending_cells) (aCons (eVar 6) (aNil)))))))))))))))
def F_init_Board : Fn := fnS finR 7 9 B_init_Board
abbrev ps_check_many : List Str := ["what", "things", "least", "most"]
abbrev N_check_many : List Str := ["what", "things", "least", "most"]
def B_check_many : Sx := sIf (tNot (tB (eCh oLe oLe (eVar 2) (eC1 cLen (aCons (eVar 1) (aNil))) (eVar 3)))) (sBad) (sNil)
def F_check_many : Fn := fnS finR 4 4 B_check_many
abbrev ps_check_names : List Str := ["things"]
abbrev N_check_names : List Str := ["things", "names", "at", "name", "one"]
def C_check_names_0 : Ex := eFld pg (eVar 4) "name"
def L_check_names_0 : Sx := sIf (tB (eB oIn (eVar 3) (eSl (eVar 1) (pNone) (pSome (eVar 2))))) (sBad) (sNil)
def B_check_names : Sx := sSeq (sAsg (eLc (iAny (eVar 0)) (gName 4) [4] (tYes) ((C_check_names_0))) (gName 1)) (sFor (iEnum (eVar 1)) (gTup (gCons (gName 2) (gCons (gName 3) (gNil)))) ((L_check_names_0)))
def F_check_names : Fn := fnS finR 1 5 B_check_names
abbrev ps_check_days : List Str := ["days", "kinds", "boards"]
abbrev N_check_days : List Str := ["days", "kinds", "boards", "day"]
def L_check_days_0 : Sx := sSeq (sIf (tB (eB oNe (eC1 cLen (aCons (eFld pg (eVar 3) "orders") (aNil))) (eC1 cLen (aCons (eVar 1) (aNil))))) (sBad) (sNil)) (sIf (tB (eB oNe (eC1 cLen (aCons (eFld pg (eVar 3) "supplies") (aNil))) (eC1 cLen (aCons (eVar 2) (aNil))))) (sBad) (sNil))
def B_check_days : Sx := sFor (iAny (eVar 0)) (gName 3) ((L_check_days_0))
def F_check_days : Fn := fnS finR 3 4 B_check_days
abbrev ps_count_lots : List Str := ["days"]
abbrev N_count_lots : List Str := ["days", "many", "day", "order"]
def L_count_lots_0 : Sx := sAsg (eB oMul (eVar 1) (eB oAdd (eB oIx (eVar 3) (eC (.int 1))) (eC (.int 1)))) (gName 1)
def L_count_lots_1 : Sx := sFor (iAny (eFld pg (eVar 2) "orders")) (gName 3) ((L_count_lots_0))
def B_count_lots : Sx := sSeq (sAsg (eC (.int 1)) (gName 1)) (sSeq (sFor (iAny (eVar 0)) (gName 2) ((L_count_lots_1))) (sRet (eVar 1)))
def F_count_lots : Fn := fnS finR 1 4 B_count_lots
abbrev ps_init_Sheet : List Str := ["self", "kinds", "boards", "days", "rests", "kerf", "stages", "cut_cost"]
abbrev N_init_Sheet : List Str := ["self", "kinds", "boards", "days", "rests", "kerf", "stages", "cut_cost", "day"]
def C_init_Sheet_0 : Ex := eC1 cSum (aCons (eFld pg (eVar 8) "supplies") (aNil))
def B_init_Sheet : Sx := sSeq (sDrop (eCall (F_check_many) (aCons (eC (.str "kinds")) (aCons (eVar 1) (aCons (eC (.int 1)) (aCons (eC (.int 6)) (aNil))))))) (sSeq (sDrop (eCall (F_check_many) (aCons (eC (.str "boards")) (aCons (eVar 2) (aCons (eC (.int 1)) (aCons (eC (.int 4)) (aNil))))))) (sSeq (sDrop (eCall (F_check_many) (aCons (eC (.str "days")) (aCons (eVar 3) (aCons (eC (.int 1)) (aCons (eC (.int 3)) (aNil))))))) (sSeq (sDrop (eCall (F_check_many) (aCons (eC (.str "rests")) (aCons (eVar 4) (aCons (eC (.int 0)) (aCons (eC (.int 3)) (aNil))))))) (sSeq (sDrop (eCall (F_check_names) (aCons (eLst (aStar (eVar 1) (aStar (eVar 2) (aStar (eVar 4) (aNil))))) (aNil)))) (sSeq (sDrop (eCall (F_check_days) (aCons (eVar 3) (aCons (eVar 1) (aCons (eVar 2) (aNil)))))) (sSeq (sDrop (eCall (F_in_range) (aCons (eC (.str "kerf")) (aCons (eVar 5) (aCons (eC (.int 0)) (aCons (eC (.int 20)) (aNil))))))) (sSeq (sIf (tB (eB oNotN (eVar 6) (eC .non))) (sDrop (eCall (F_in_range) (aCons (eC (.str "stages")) (aCons (eVar 6) (aCons (eC (.int 1)) (aCons (eC (.int 8)) (aNil))))))) (sNil)) (sSeq (sDrop (eCall (F_in_range) (aCons (eC (.str "cut_cost")) (aCons (eVar 7) (aCons (eC (.int 0)) (aCons (eC (.int 1000000000)) (aNil))))))) (sSeq (sIf (tB (eB oGt (eCall (F_count_lots) (aCons (eVar 3) (aNil))) (eFld pg (eVar 0) "MOST_LOTS"))) (sBad) (sNil)) (sSeq (sIf (tB (eB oGt (eC1 cSum (aCons (eLc (iAny (eVar 3)) (gName 8) [8] (tYes) ((C_init_Sheet_0))) (aNil))) (eFld pg (eVar 0) "MOST_BOARDS"))) (sBad) (sNil)) (sSeq (sFld pg 0 "kinds" (eC1 cTuple (aCons (eVar 1) (aNil)))) (sSeq (sFld pg 0 "boards" (eC1 cTuple (aCons (eVar 2) (aNil)))) (sSeq (sFld pg 0 "days" (eC1 cTuple (aCons (eVar 3) (aNil)))) (sSeq (sFld pg 0 "rests" (eC1 cTuple (aCons (eVar 4) (aNil)))) (sSeq (sFld pg 0 "kerf" (eVar 5)) (sSeq (sFld pg 0 "stages" (eVar 6)) (sFld pg 0 "cut_cost" (eVar 7))))))))))))))))))
def F_init_Sheet : Fn := fnS finR 8 9 B_init_Sheet
abbrev ps__law_built : List Str := ["d"]
abbrev N__law_built : List Str := ["d", "kinds", "rests", "days", "k", "board", "a"]
def C__law_built_0 : Ex := eMake "Kind" (F_init_Kind) (fun xs ys => perm [0, 1, 2, 3, 4] (xs ++ ([.int 0] ++ ([] ++ ys)))) (aCons (eB oIx (eVar 6) (eC (.int 0))) (aCons (eB oIx (eVar 6) (eC (.int 1))) (aCons (eB oIx (eVar 6) (eC (.int 2))) (aNil)))) (aCons (eB oIx (eVar 6) (eC (.int 3))) (aNil))
def C__law_built_1 : Ex := eMake "Rest" (F_init_Rest) (fun xs ys => perm [0, 1, 2, 3] (xs ++ ([.int 0] ++ ys))) (aCons (eB oIx (eVar 6) (eC (.int 0))) (aCons (eB oIx (eVar 6) (eC (.int 1))) (aCons (eB oIx (eVar 6) (eC (.int 2))) (aNil)))) (aNil)
def L__law_built_0 : Sx := sApp 3 (eMake "Day" (F_init_Day) (fun xs ys => perm [0, 1] (xs ++ ys)) (aCons (eB oMul (eLst (aCons (eTup (aCons (eC (.int 0)) (aCons (eC (.int 0)) (aNil)))) (aNil))) (eC1 cLen (aCons (eB oIx (eVar 0) (eC (.int 0))) (aNil)))) (aCons (eTup (aCons (eC (.int 1)) (aNil))) (aNil))) (aNil))
def B__law_built : Sx := sSeq (sAsg (eLc (iAny (eB oIx (eVar 0) (eC (.int 0)))) (gName 6) [6] (tYes) ((C__law_built_0))) (gName 1)) (sSeq (sAsg (eLc (iAny (eB oIx (eVar 0) (eC (.int 1)))) (gName 6) [6] (tYes) ((C__law_built_1))) (gName 2)) (sSeq (sAsg (eLstL (aNil)) (gName 3)) (sSeq (sFor (iRng1 (aCons (eB oIx (eVar 0) (eC (.int 2))) (aNil))) (gName 4) ((L__law_built_0))) (sSeq (sFrz 3) (sSeq (sAsg (eMake "Board" (F_init_Board) (fun xs ys => perm [0, 1, 2, 3, 4, 5] (xs ++ ([.int 0, .tup []] ++ ys))) (aCons (eC (.str "z")) (aCons (eC (.int 2)) (aCons (eC (.int 2)) (aCons (eC (.int 0)) (aNil))))) (aNil)) (gName 5)) (sRet (eMake "Sheet" (F_init_Sheet) (fun xs ys => perm [0, 1, 2, 4, 5, 6, 3] (xs ++ ([.int 0] ++ ys))) (aCons (eVar 1) (aCons (eLst (aCons (eVar 5) (aNil))) (aCons (eVar 3) (aNil)))) (aCons (eVar 2) (aCons (eB oIx (eVar 0) (eC (.int 4))) (aCons (eB oIx (eVar 0) (eC (.int 3))) (aNil)))))))))))
def F__law_built : Fn := fnS finR 1 7 B__law_built
abbrev ps__law_ascending : List Str := ["cells"]
abbrev N__law_ascending : List Str := ["cells", "found", "number", "cell"]
def C__law_ascending_0 : Ex := eB oAdd (eB oMul (eB oIx (eVar 3) (eC (.int 0))) (eC (.int 100))) (eB oIx (eVar 3) (eC (.int 1)))
def L__law_ascending_0 : Sx := sSeq (sAsg (eTup (aCons (eB oDiv (eVar 2) (eC (.int 100))) (aCons (eB oMod (eC1 cInt (aCons (eVar 2) (aNil))) (eC (.int 100))) (aNil)))) (gName 3)) (sIf (tOr (tB (eB oEq (eC1 cLen (aCons (eVar 1) (aNil))) (eC (.int 0)))) (tB (eB oNe (eB oIx (eVar 1) (eU oNeg (eC (.int 1)))) (eVar 3)))) (sApp 1 (eVar 3)) (sNil))
def B__law_ascending : Sx := sSeq (sAsg (eLstL (aNil)) (gName 1)) (sSeq (sFor (iAny (eC1 cSorted (aCons (eLc (iAny (eVar 0)) (gName 3) [3] (tYes) ((C__law_ascending_0))) (aNil)))) (gName 2) ((L__law_ascending_0))) (sSeq (sFrz 1) (sRet (eC1 cTuple (aCons (eVar 1) (aNil))))))
def F__law_ascending : Fn := fnS finR 1 4 B__law_ascending
abbrev ps__law_part : List Str := ["p", "days", "stages"]
abbrev N__law_part : List Str := ["p", "days", "stages", "state", "mode", "sides", "cells", "part", "cell", "left", "k"]
def I__law_part_0 : Sx := sIf (tB (eB oLt (eVar 9) (eVar 2))) (sAsg (eTup (aCons (eVar 9) (aCons (eB oAdd (eC (.int 1)) (eCall (F__law_draw) (aCons (eVar 0) (aCons (eC (.int 2)) (aNil))))) (aNil)))) (gName 3)) (sNil)
def I__law_part_1 : Sx := sIf (tB (eB oNotN (eVar 2) (eC .non))) (sSeq (sAsg (eB oIx (eLst (aCons (eC (.int 0)) (aCons (eVar 2) (aCons (eCall (F__law_draw) (aCons (eVar 0) (aCons (eB oAdd (eVar 2) (eC (.int 1))) (aNil)))) (aNil))))) (eCall (F__law_draw) (aCons (eVar 0) (aCons (eC (.int 3)) (aNil))))) (gName 9)) (sSeq (sAsg (eTup (aCons (eVar 9) (aCons (eC (.int 0)) (aNil)))) (gName 3)) ((I__law_part_0)))) (sNil)
def I__law_part_2 : Sx := sIf (tB (eB oGt (eVar 4) (eC (.int 5)))) (sAsg (eB oIx (eLst (aCons (eLst (aCons (eC (.int 12)) (aCons (eC (.int 10)) (aNil)))) (aCons (eLst (aCons (eC (.int 60)) (aCons (eC (.int 2)) (aNil)))) (aNil)))) (eB oSub (eVar 4) (eC (.int 6)))) (gName 5)) (sNil)
def L__law_part_0 : Sx := sApp 6 (eTup (aCons (eCall (F__law_draw) (aCons (eVar 0) (aCons (eB oIx (eVar 5) (eC (.int 0))) (aNil)))) (aCons (eCall (F__law_draw) (aCons (eVar 0) (aCons (eB oIx (eVar 5) (eC (.int 1))) (aNil)))) (aNil))))
def I__law_part_3 : Sx := sIf (tB (eB oEq (eCall (F__law_draw) (aCons (eVar 0) (aCons (eC (.int 3)) (aNil)))) (eC (.int 1)))) (sFor (iRng1 (aCons (eB oAdd (eC (.int 1)) (eCall (F__law_draw) (aCons (eVar 0) (aCons (eC (.int 3)) (aNil))))) (aNil))) (gName 10) ((L__law_part_0))) (sNil)
def L__law_part_1 : Sx := sAsg (eB oAdd (eVar 7) (eVar 8)) (gName 7)
def B__law_part : Sx := sSeq (sAsg (eTup (aCons (eU oNeg (eC (.int 1))) (aCons (eC (.int 0)) (aNil)))) (gName 3)) (sSeq ((I__law_part_1)) (sSeq (sAsg (eCall (F__law_draw) (aCons (eVar 0) (aCons (eC (.int 8)) (aNil)))) (gName 4)) (sSeq (sAsg (eLst (aCons (eB oAdd (eC (.int 1)) (eCall (F__law_draw) (aCons (eVar 0) (aCons (eC (.int 8)) (aNil))))) (aCons (eB oAdd (eC (.int 1)) (eCall (F__law_draw) (aCons (eVar 0) (aCons (eC (.int 8)) (aNil))))) (aNil)))) (gName 5)) (sSeq ((I__law_part_2)) (sSeq (sAsg (eLstL (aNil)) (gName 6)) (sSeq ((I__law_part_3)) (sSeq (sFrz 6) (sSeq (sAsg (eB oAdd (eTup (aCons (eCall (F__law_draw) (aCons (eVar 0) (aCons (eVar 1) (aNil)))) (aCons (eB oIx (eVar 5) (eC (.int 0))) (aCons (eB oIx (eVar 5) (eC (.int 1))) (aNil))))) (eVar 3)) (gName 7)) (sSeq (sFor (iAny (eCall (F__law_ascending) (aCons (eVar 6) (aNil)))) (gName 8) ((L__law_part_1))) (sRet (eVar 7)))))))))))
def F__law_part : Fn := fnS finR 3 11 B__law_part
abbrev ps__law_list : List Str := ["d", "part"]
abbrev N__law_list : List Str := ["d", "part", "deeds", "k", "way", "row", "good", "at"]
def L__law_list_0 : Sx := sSeq (sAsg (eB oIx (eB oIx (eVar 0) (eC (.int 0))) (eVar 3)) (gName 5)) (sSeq (sAsg (eAnd (eB oLe (eB oIx (eVar 5) (eC (.int 1))) (eB oIx (eVar 1) (eC (.int 1)))) (eB oLe (eB oIx (eVar 5) (eC (.int 2))) (eB oIx (eVar 1) (eC (.int 2))))) (gName 6)) (sSeq (sIf (tAnd (tB (eB oIx (eVar 5) (eC (.int 3)))) (tAnd (tB (eB oLe (eB oIx (eVar 5) (eC (.int 2))) (eB oIx (eVar 1) (eC (.int 1))))) (tB (eB oLe (eB oIx (eVar 5) (eC (.int 1))) (eB oIx (eVar 1) (eC (.int 2))))))) (sAsg (eC (.bl true)) (gName 6)) (sNil)) (sIf (tAnd (tB (eVar 6)) (tB (eB oEq (eC1 cLen (aCons (eVar 1) (aNil))) (eC (.int 5))))) (sApp 2 (eTup (aCons (eC (.str "take")) (aCons (eVar 1) (aCons (eVar 3) (aNil)))))) (sNil))))
def L__law_list_1 : Sx := sSeq (sAsg (eB oIx (eB oIx (eVar 0) (eC (.int 1))) (eVar 3)) (gName 5)) (sSeq (sAsg (eAnd (eB oLe (eB oIx (eVar 5) (eC (.int 1))) (eB oIx (eVar 1) (eC (.int 1)))) (eB oLe (eB oIx (eVar 5) (eC (.int 2))) (eB oIx (eVar 1) (eC (.int 2))))) (gName 6)) (sIf (tAnd (tB (eVar 6)) (tAnd (tB (eB oEq (eC1 cLen (aCons (eVar 1) (aNil))) (eC (.int 5)))) (tB (eB oLt (eB oAdd (eB oIx (eVar 1) (eC (.int 0))) (eC (.int 1))) (eB oIx (eVar 0) (eC (.int 2))))))) (sApp 2 (eTup (aCons (eC (.str "keep")) (aCons (eVar 1) (aCons (eVar 3) (aNil)))))) (sNil)))
def L__law_list_2 : Sx := sApp 2 (eTup (aCons (eC (.str "cut")) (aCons (eVar 1) (aCons (eVar 4) (aCons (eVar 7) (aNil))))))
def L__law_list_3 : Sx := sIf (tOr (tB (eB oNe (eB oIx (eVar 1) (eC (.int 3))) (eC (.int 0)))) (tB (eB oEq (eB oIx (eVar 1) (eC (.int 4))) (eVar 4)))) (sFor (iRng2 (aCons (eC (.int 1)) (aCons (eB oIx (eVar 1) (eVar 4)) (aNil)))) (gName 7) ((L__law_list_2))) (sNil)
def B__law_list : Sx := sSeq (sAsg (eLstL (aNil)) (gName 2)) (sSeq (sFor (iRng1 (aCons (eC1 cLen (aCons (eB oIx (eVar 0) (eC (.int 0))) (aNil))) (aNil))) (gName 3) ((L__law_list_0))) (sSeq (sFor (iRng1 (aCons (eC1 cLen (aCons (eB oIx (eVar 0) (eC (.int 1))) (aNil))) (aNil))) (gName 3) ((L__law_list_1))) (sSeq (sFor (iAny (eTup (aCons (eC (.int 1)) (aCons (eC (.int 2)) (aNil))))) (gName 4) ((L__law_list_3))) (sRet (eVar 2)))))
def F__law_list : Fn := fnS finR 2 8 B__law_list
abbrev ps_thing_at : List Str := ["things", "what", "index"]
abbrev N_thing_at : List Str := ["things", "what", "index"]
def B_thing_at : Sx := sSeq (sIf (tNot (tB (eCh oLe oLt (eC (.int 0)) (eVar 2) (eC1 cLen (aCons (eVar 0) (aNil)))))) (sBad) (sNil)) (sRet (eB oIx (eVar 0) (eVar 2)))
def F_thing_at : Fn := fnS finR 3 3 B_thing_at
abbrev ps_kind_at : List Str := ["sheet", "index"]
abbrev N_kind_at : List Str := ["sheet", "index"]
def B_kind_at : Sx := sRet (eCall (F_thing_at) (aCons (eFld pg (eVar 0) "kinds") (aCons (eC (.str "kind")) (aCons (eVar 1) (aNil)))))
def F_kind_at : Fn := fnS finR 2 2 B_kind_at
abbrev ps_is_clean : List Str := ["part"]
abbrev N_is_clean : List Str := ["part"]
def B_is_clean : Sx := sRet (eB oEq (eC1 cLen (aCons (eVar 0) (aNil))) (eC (.int 5)))
def F_is_clean : Fn := fnS finR 1 1 B_is_clean
abbrev ps_fits : List Str := ["sheet", "part", "kind"]
abbrev N_fits : List Str := ["sheet", "part", "kind", "one"]
def B_fits : Sx := sSeq (sAsg (eCall (F_kind_at) (aCons (eVar 0) (aCons (eVar 2) (aNil)))) (gName 3)) (sSeq (sIf (tNot (tB (eCall (F_is_clean) (aCons (eVar 1) (aNil))))) (sRet (eC (.bl false))) (sNil)) (sSeq (sIf (tAnd (tB (eB oLe (eFld pg (eVar 3) "length") (eB oIx (eVar 1) (eC (.int 1))))) (tB (eB oLe (eFld pg (eVar 3) "width") (eB oIx (eVar 1) (eC (.int 2)))))) (sRet (eC (.bl true))) (sNil)) (sRet (eAnd (eFld pg (eVar 3) "turns") (eAnd (eB oLe (eFld pg (eVar 3) "width") (eB oIx (eVar 1) (eC (.int 1)))) (eB oLe (eFld pg (eVar 3) "length") (eB oIx (eVar 1) (eC (.int 2)))))))))
def F_fits : Fn := fnS finR 3 4 B_fits
abbrev ps_holds_rest : List Str := ["part", "one"]
abbrev N_holds_rest : List Str := ["part", "one"]
def B_holds_rest : Sx := sRet (eAnd (eCall (F_is_clean) (aCons (eVar 0) (aNil))) (eAnd (eB oLe (eFld pg (eVar 1) "length") (eB oIx (eVar 0) (eC (.int 1)))) (eB oLe (eFld pg (eVar 1) "width") (eB oIx (eVar 0) (eC (.int 2))))))
def F_holds_rest : Fn := fnS finR 2 2 B_holds_rest
abbrev ps_ends_at : List Str := ["sheet", "part"]
abbrev N_ends_at : List Str := ["sheet", "part", "found", "rest", "one", "kind"]
def C_ends_at_0 : Ex := eTup (aCons (eC (.str "take")) (aCons (eVar 1) (aCons (eVar 5) (aNil))))
def L_ends_at_0 : Sx := sIf (tB (eCall (F_holds_rest) (aCons (eVar 1) (aCons (eVar 4) (aNil))))) (sApp 2 (eTup (aCons (eC (.str "keep")) (aCons (eVar 1) (aCons (eVar 3) (aNil)))))) (sNil)
def B_ends_at : Sx := sSeq (sAsg (eLcL (iRng1 (aCons (eC1 cLen (aCons (eFld pg (eVar 0) "kinds") (aNil))) (aNil))) (gName 5) [5] (tB (eCall (F_fits) (aCons (eVar 0) (aCons (eVar 1) (aCons (eVar 5) (aNil)))))) ((C_ends_at_0))) (gName 2)) (sSeq (sIf (tB (eB oLt (eB oAdd (eB oIx (eVar 1) (eC (.int 0))) (eC (.int 1))) (eC1 cLen (aCons (eFld pg (eVar 0) "days") (aNil))))) (sFor (iEnum (eFld pg (eVar 0) "rests")) (gTup (gCons (gName 3) (gCons (gName 4) (gNil)))) ((L_ends_at_0))) (sNil)) (sRet (eVar 2)))
def F_ends_at : Fn := fnS finR 2 6 B_ends_at
abbrev ps_side_of : List Str := ["part", "way"]
abbrev N_side_of : List Str := ["part", "way"]
def B_side_of : Sx := sRet (eIf (tB (eB oEq (eVar 1) (eC (.int 1)))) (eB oIx (eVar 0) (eC (.int 1))) (eB oIx (eVar 0) (eC (.int 2))))
def F_side_of : Fn := fnS finR 2 2 B_side_of
abbrev ps_may_cut : List Str := ["part", "way", "at"]
abbrev N_may_cut : List Str := ["part", "way", "at"]
def B_may_cut : Sx := sSeq (sIf (tOr (tB (eB oNotIn (eVar 1) (eTup (aCons (eC (.int 1)) (aCons (eC (.int 2)) (aNil)))))) (tNot (tB (eCh oLe oLt (eC (.int 1)) (eVar 2) (eCall (F_side_of) (aCons (eVar 0) (aCons (eVar 1) (aNil)))))))) (sRet (eC (.bl false))) (sNil)) (sRet (eOr (eB oEq (eB oIx (eVar 0) (eC (.int 3))) (eU oNeg (eC (.int 1)))) (eOr (eB oEq (eB oIx (eVar 0) (eC (.int 4))) (eVar 1)) (eB oGe (eB oIx (eVar 0) (eC (.int 3))) (eC (.int 1))))))
def F_may_cut : Fn := fnS finR 3 3 B_may_cut
abbrev ps_cuts_at : List Str := ["part"]
abbrev N_cuts_at : List Str := ["part", "found", "way", "at"]
def L_cuts_at_0 : Sx := sIf (tB (eCall (F_may_cut) (aCons (eVar 0) (aCons (eVar 2) (aCons (eVar 3) (aNil)))))) (sApp 1 (eTup (aCons (eC (.str "cut")) (aCons (eVar 0) (aCons (eVar 2) (aCons (eVar 3) (aNil))))))) (sNil)
def L_cuts_at_1 : Sx := sFor (iRng2 (aCons (eC (.int 1)) (aCons (eCall (F_side_of) (aCons (eVar 0) (aCons (eVar 2) (aNil)))) (aNil)))) (gName 3) ((L_cuts_at_0))
def B_cuts_at : Sx := sSeq (sAsg (eLstL (aNil)) (gName 1)) (sSeq (sFor (iAny (eTup (aCons (eC (.int 1)) (aCons (eC (.int 2)) (aNil))))) (gName 2) ((L_cuts_at_1))) (sRet (eVar 1)))
def F_cuts_at : Fn := fnS finR 1 4 B_cuts_at
abbrev ps_deeds_at : List Str := ["sheet", "part"]
abbrev N_deeds_at : List Str := ["sheet", "part"]
def B_deeds_at : Sx := sRet (eAddL (eCall (F_ends_at) (aCons (eVar 0) (aCons (eVar 1) (aNil)))) (eCall (F_cuts_at) (aCons (eVar 1) (aNil))))
def F_deeds_at : Fn := fnS finL 2 2 B_deeds_at
abbrev ps__law_same : List Str := ["told", "due"]
abbrev N__law_same : List Str := ["told", "due", "k"]
def L__law_same_0 (rec : Fn) : Sx := sIf (tNot (tB (eCall (rec) (aCons (eB oIx (eVar 0) (eVar 2)) (aCons (eB oIx (eVar 1) (eVar 2)) (aNil)))))) (sRet (eC (.bl false))) (sNil)
def B__law_same (rec : Fn) : Sx := sSeq (sIf (tB (eB oIsN (eVar 1) (eC .non))) (sRet (eB oIsN (eVar 0) (eC .non))) (sNil)) (sSeq (sIf (tB (eC1 (cIsi pg) (aCons (eVar 1) (aCons (eC (.ty "bool")) (aNil))))) (sRet (eAnd (eC1 (cIsi pg) (aCons (eVar 0) (aCons (eC (.ty "bool")) (aNil)))) (eB oEq (eVar 0) (eVar 1)))) (sNil)) (sSeq (sIf (tB (eC1 (cIsi pg) (aCons (eVar 1) (aCons (eC (.ty "int")) (aNil))))) (sRet (eAnd (eC1 (cIsi pg) (aCons (eVar 0) (aCons (eC (.ty "int")) (aNil)))) (eAnd (eNot (eC1 (cIsi pg) (aCons (eVar 0) (aCons (eC (.ty "bool")) (aNil))))) (eB oEq (eVar 0) (eVar 1))))) (sNil)) (sSeq (sIf (tB (eC1 (cIsi pg) (aCons (eVar 1) (aCons (eC (.ty "str")) (aNil))))) (sRet (eAnd (eC1 (cIsi pg) (aCons (eVar 0) (aCons (eC (.ty "str")) (aNil)))) (eB oEq (eVar 0) (eVar 1)))) (sNil)) (sSeq (sIf (tAnd (tB (eC1 (cIsi pg) (aCons (eVar 1) (aCons (eC (.ty "tuple")) (aNil))))) (tNot (tB (eC1 (cIsi pg) (aCons (eVar 0) (aCons (eC (.ty "tuple")) (aNil))))))) (sRet (eC (.bl false))) (sNil)) (sSeq (sIf (tAnd (tB (eC1 (cIsi pg) (aCons (eVar 1) (aCons (eC (.ty "list")) (aNil))))) (tNot (tB (eC1 (cIsi pg) (aCons (eVar 0) (aCons (eC (.ty "list")) (aNil))))))) (sRet (eC (.bl false))) (sNil)) (sSeq (sIf (tB (eB oNe (eC1 cLen (aCons (eVar 0) (aNil))) (eC1 cLen (aCons (eVar 1) (aNil))))) (sRet (eC (.bl false))) (sNil)) (sSeq (sFor (iRng1 (aCons (eC1 cLen (aCons (eVar 1) (aNil))) (aNil))) (gName 2) ((L__law_same_0 rec))) (sRet (eC (.bl true))))))))))
def F__law_same : Nat → Fn
  | 0 => fun _ _ => .bad
  | n + 1 => fnS finR 2 3 (B__law_same (F__law_same n))
abbrev ps_law : List Str := ["script"]
abbrev N_law : List Str := ["script", "p", "d", "sheet", "k", "part", "want", "have"]
def L_law_0 : Sx := sSeq (sAsg (eCall (F__law_part) (aCons (eVar 1) (aCons (eB oIx (eVar 2) (eC (.int 2))) (aCons (eB oIx (eVar 2) (eC (.int 3))) (aNil))))) (gName 5)) (sSeq (sAsg (eCall (F__law_list) (aCons (eVar 2) (aCons (eVar 5) (aNil)))) (gName 6)) (sSeq (sAsg (eCall (F_deeds_at) (aCons (eVar 3) (aCons (eVar 5) (aNil)))) (gName 7)) (sSeq (sIf (tNot (tB (eCall (F__law_same 8) (aCons (eVar 7) (aCons (eVar 6) (aNil)))))) (sRet (eC (.bl false))) (sNil)) (sSeq (sApp 7 (eTup (aCons (eC (.str "take")) (aCons (eVar 5) (aCons (eC (.int 0)) (aNil)))))) (sSeq (sSet 7 (eC (.int 0)) (eTup (aCons (eC (.str "cut")) (aCons (eVar 5) (aCons (eC (.int 1)) (aCons (eC (.int 1)) (aNil))))))) (sIf (tNot (tB (eCall (F__law_same 8) (aCons (eCallG (F_deeds_at) (fun xs ys => perm [1, 0] (xs ++ ys)) aNil (aCons (eVar 5) (aCons (eVar 3) (aNil)))) (aCons (eVar 6) (aNil)))))) (sRet (eC (.bl false))) (sNil)))))))
def B_law : Sx := sSeq (sAsg (eCall (F__law_pool) (aCons (eVar 0) (aNil))) (gName 1)) (sSeq (sAsg (eCall (F__law_drawn) (aCons (eVar 1) (aNil))) (gName 2)) (sSeq (sAsg (eCall (F__law_built) (aCons (eVar 2) (aNil))) (gName 3)) (sSeq (sFor (iRng1 (aCons (eC (.int 3)) (aNil))) (gName 4) ((L_law_0))) (sRet (eC (.bl true))))))
def F_law : Fn := fnS finR 1 8 B_law
end K09

set_option Elab.async false
set_option linter.all false
set_option maxRecDepth 100000
set_option maxHeartbeats 4000000
/-! K09_K: each def keeps its promise. -/
namespace K09
open Cb
open PySem PySem.Spec PyProof.Rows L2
def top (i : Nat) : Stmt := PySem.Challenge.pw_cutboards_k09_deeds_in_order.main.body.getD i (.Pass ⟨0, 0, 0, 0⟩)
def clsBody (s : Stmt) : List Stmt := match s with
  | .ClassDef (body := b) .. => b
  | _ => []
abbrev s__law_pool : Stmt := top 89
theorem sc__law_pool : FnScope N__law_pool ps__law_pool (defScope s__law_pool) := ⟨rfl, rfl, rfl, by decide +kernel, rfl, by decide +kernel, by decide +kernel⟩
abbrev s__law_draw : Stmt := top 90
theorem sc__law_draw : FnScope N__law_draw ps__law_draw (defScope s__law_draw) := ⟨rfl, rfl, rfl, by decide +kernel, rfl, by decide +kernel, by decide +kernel⟩
abbrev s__law_drawn : Stmt := top 93
theorem sc__law_drawn : FnScope N__law_drawn ps__law_drawn (defScope s__law_drawn) := ⟨rfl, rfl, rfl, by decide +kernel, rfl, by decide +kernel, by decide +kernel⟩
abbrev s_is_name : Stmt := top 34
theorem sc_is_name : FnScope N_is_name ps_is_name (defScope s_is_name) := ⟨rfl, rfl, rfl, by decide +kernel, rfl, by decide +kernel, by decide +kernel⟩
abbrev s_check_name : Stmt := top 35
theorem sc_check_name : FnScope N_check_name ps_check_name (defScope s_check_name) := ⟨rfl, rfl, rfl, by decide +kernel, rfl, by decide +kernel, by decide +kernel⟩
abbrev s_in_range : Stmt := top 36
theorem sc_in_range : FnScope N_in_range ps_in_range (defScope s_in_range) := ⟨rfl, rfl, rfl, by decide +kernel, rfl, by decide +kernel, by decide +kernel⟩
abbrev s_check_sides : Stmt := top 37
theorem sc_check_sides : FnScope N_check_sides ps_check_sides (defScope s_check_sides) := ⟨rfl, rfl, rfl, by decide +kernel, rfl, by decide +kernel, by decide +kernel⟩
abbrev s_init_Kind : Stmt := (clsBody (top 47)).getD 0 (.Pass ⟨0, 0, 0, 0⟩)
theorem sc_init_Kind : FnScope N_init_Kind ps_init_Kind (defScope s_init_Kind) := ⟨rfl, rfl, rfl, by decide +kernel, rfl, by decide +kernel, by decide +kernel⟩
abbrev s_init_Rest : Stmt := (clsBody (top 48)).getD 0 (.Pass ⟨0, 0, 0, 0⟩)
theorem sc_init_Rest : FnScope N_init_Rest ps_init_Rest (defScope s_init_Rest) := ⟨rfl, rfl, rfl, by decide +kernel, rfl, by decide +kernel, by decide +kernel⟩
abbrev s_init_Day : Stmt := (clsBody (top 45)).getD 0 (.Pass ⟨0, 0, 0, 0⟩)
theorem sc_init_Day : FnScope N_init_Day ps_init_Day (defScope s_init_Day) := ⟨rfl, rfl, rfl, by decide +kernel, rfl, by decide +kernel, by decide +kernel⟩
abbrev s_ascending_cells : Stmt := top 40
theorem sc_ascending_cells : FnScope N_ascending_cells ps_ascending_cells (defScope s_ascending_cells) := ⟨rfl, rfl, rfl, by decide +kernel, rfl, by decide +kernel, by decide +kernel⟩
abbrev s_init_Board : Stmt := (clsBody (top 41)).getD 0 (.Pass ⟨0, 0, 0, 0⟩)
theorem sc_init_Board : FnScope N_init_Board ps_init_Board (defScope s_init_Board) := ⟨rfl, rfl, rfl, by decide +kernel, rfl, by decide +kernel, by decide +kernel⟩
abbrev s_check_many : Stmt := top 83
theorem sc_check_many : FnScope N_check_many ps_check_many (defScope s_check_many) := ⟨rfl, rfl, rfl, by decide +kernel, rfl, by decide +kernel, by decide +kernel⟩
abbrev s_check_names : Stmt := top 84
theorem sc_check_names : FnScope N_check_names ps_check_names (defScope s_check_names) := ⟨rfl, rfl, rfl, by decide +kernel, rfl, by decide +kernel, by decide +kernel⟩
abbrev s_check_days : Stmt := top 85
theorem sc_check_days : FnScope N_check_days ps_check_days (defScope s_check_days) := ⟨rfl, rfl, rfl, by decide +kernel, rfl, by decide +kernel, by decide +kernel⟩
abbrev s_count_lots : Stmt := top 86
theorem sc_count_lots : FnScope N_count_lots ps_count_lots (defScope s_count_lots) := ⟨rfl, rfl, rfl, by decide +kernel, rfl, by decide +kernel, by decide +kernel⟩
abbrev s_init_Sheet : Stmt := (clsBody (top 87)).getD 2 (.Pass ⟨0, 0, 0, 0⟩)
theorem sc_init_Sheet : FnScope N_init_Sheet ps_init_Sheet (defScope s_init_Sheet) := ⟨rfl, rfl, rfl, by decide +kernel, rfl, by decide +kernel, by decide +kernel⟩
abbrev s__law_built : Stmt := top 94
theorem sc__law_built : FnScope N__law_built ps__law_built (defScope s__law_built) := ⟨rfl, rfl, rfl, by decide +kernel, rfl, by decide +kernel, by decide +kernel⟩
abbrev s__law_ascending : Stmt := top 92
theorem sc__law_ascending : FnScope N__law_ascending ps__law_ascending (defScope s__law_ascending) := ⟨rfl, rfl, rfl, by decide +kernel, rfl, by decide +kernel, by decide +kernel⟩
abbrev s__law_part : Stmt := top 95
theorem sc__law_part : FnScope N__law_part ps__law_part (defScope s__law_part) := ⟨rfl, rfl, rfl, by decide +kernel, rfl, by decide +kernel, by decide +kernel⟩
abbrev s__law_list : Stmt := top 96
theorem sc__law_list : FnScope N__law_list ps__law_list (defScope s__law_list) := ⟨rfl, rfl, rfl, by decide +kernel, rfl, by decide +kernel, by decide +kernel⟩
abbrev s_thing_at : Stmt := top 14
theorem sc_thing_at : FnScope N_thing_at ps_thing_at (defScope s_thing_at) := ⟨rfl, rfl, rfl, by decide +kernel, rfl, by decide +kernel, by decide +kernel⟩
abbrev s_kind_at : Stmt := top 15
theorem sc_kind_at : FnScope N_kind_at ps_kind_at (defScope s_kind_at) := ⟨rfl, rfl, rfl, by decide +kernel, rfl, by decide +kernel, by decide +kernel⟩
abbrev s_is_clean : Stmt := top 18
theorem sc_is_clean : FnScope N_is_clean ps_is_clean (defScope s_is_clean) := ⟨rfl, rfl, rfl, by decide +kernel, rfl, by decide +kernel, by decide +kernel⟩
abbrev s_fits : Stmt := top 21
theorem sc_fits : FnScope N_fits ps_fits (defScope s_fits) := ⟨rfl, rfl, rfl, by decide +kernel, rfl, by decide +kernel, by decide +kernel⟩
abbrev s_holds_rest : Stmt := top 22
theorem sc_holds_rest : FnScope N_holds_rest ps_holds_rest (defScope s_holds_rest) := ⟨rfl, rfl, rfl, by decide +kernel, rfl, by decide +kernel, by decide +kernel⟩
abbrev s_ends_at : Stmt := top 24
theorem sc_ends_at : FnScope N_ends_at ps_ends_at (defScope s_ends_at) := ⟨rfl, rfl, rfl, by decide +kernel, rfl, by decide +kernel, by decide +kernel⟩
abbrev s_side_of : Stmt := top 19
theorem sc_side_of : FnScope N_side_of ps_side_of (defScope s_side_of) := ⟨rfl, rfl, rfl, by decide +kernel, rfl, by decide +kernel, by decide +kernel⟩
abbrev s_may_cut : Stmt := top 20
theorem sc_may_cut : FnScope N_may_cut ps_may_cut (defScope s_may_cut) := ⟨rfl, rfl, rfl, by decide +kernel, rfl, by decide +kernel, by decide +kernel⟩
abbrev s_cuts_at : Stmt := top 25
theorem sc_cuts_at : FnScope N_cuts_at ps_cuts_at (defScope s_cuts_at) := ⟨rfl, rfl, rfl, by decide +kernel, rfl, by decide +kernel, by decide +kernel⟩
abbrev s_deeds_at : Stmt := top 26
theorem sc_deeds_at : FnScope N_deeds_at ps_deeds_at (defScope s_deeds_at) := ⟨rfl, rfl, rfl, by decide +kernel, rfl, by decide +kernel, by decide +kernel⟩
abbrev s__law_same : Stmt := top 91
theorem sc__law_same : FnScope N__law_same ps__law_same (defScope s__law_same) := ⟨rfl, rfl, rfl, by decide +kernel, rfl, by decide +kernel, by decide +kernel⟩
abbrev s_law : Stmt := top 97
theorem sc_law : FnScope N_law ps_law (defScope s_law) := ⟨rfl, rfl, rfl, by decide +kernel, rfl, by decide +kernel, by decide +kernel⟩
structure Txt (K : PySem.W.Frag) (mg : Str → Option Value) : Prop where
  pok : POk K pg
  g_int : mg "int" = none
  g_abs : mg "abs" = none
  g_len : mg "len" = none
  g_range : mg "range" = none
  g_tuple : mg "tuple" = none
  g_sorted : mg "sorted" = none
  g_enumerate : mg "enumerate" = none
  g_sum : mg "sum" = none
  g_bool : mg "bool" = none
  g_isinstance : mg "isinstance" = none
  g_str : mg "str" = none
  g_list : mg "list" = none
  g__law_pool : mg "_law_pool" = some (.ref (He.ga K "_law_pool"))
  g__law_draw : mg "_law_draw" = some (.ref (He.ga K "_law_draw"))
  g__law_drawn : mg "_law_drawn" = some (.ref (He.ga K "_law_drawn"))
  g_is_name : mg "is_name" = some (.ref (He.ga K "is_name"))
  g_check_name : mg "check_name" = some (.ref (He.ga K "check_name"))
  g_in_range : mg "in_range" = some (.ref (He.ga K "in_range"))
  g_check_sides : mg "check_sides" = some (.ref (He.ga K "check_sides"))
  g_Kind : mg "Kind" = some (.ref (He.ga K "Kind"))
  g_Rest : mg "Rest" = some (.ref (He.ga K "Rest"))
  g_Day : mg "Day" = some (.ref (He.ga K "Day"))
  g_ascending_cells : mg "ascending_cells" = some (.ref (He.ga K "ascending_cells"))
  g_Board : mg "Board" = some (.ref (He.ga K "Board"))
  g_check_many : mg "check_many" = some (.ref (He.ga K "check_many"))
  g_check_names : mg "check_names" = some (.ref (He.ga K "check_names"))
  g_check_days : mg "check_days" = some (.ref (He.ga K "check_days"))
  g_count_lots : mg "count_lots" = some (.ref (He.ga K "count_lots"))
  g_Sheet : mg "Sheet" = some (.ref (He.ga K "Sheet"))
  g__law_built : mg "_law_built" = some (.ref (He.ga K "_law_built"))
  g__law_ascending : mg "_law_ascending" = some (.ref (He.ga K "_law_ascending"))
  g__law_part : mg "_law_part" = some (.ref (He.ga K "_law_part"))
  g__law_list : mg "_law_list" = some (.ref (He.ga K "_law_list"))
  g_thing_at : mg "thing_at" = some (.ref (He.ga K "thing_at"))
  g_kind_at : mg "kind_at" = some (.ref (He.ga K "kind_at"))
  g_is_clean : mg "is_clean" = some (.ref (He.ga K "is_clean"))
  g_fits : mg "fits" = some (.ref (He.ga K "fits"))
  g_holds_rest : mg "holds_rest" = some (.ref (He.ga K "holds_rest"))
  g_ends_at : mg "ends_at" = some (.ref (He.ga K "ends_at"))
  g_side_of : mg "side_of" = some (.ref (He.ga K "side_of"))
  g_may_cut : mg "may_cut" = some (.ref (He.ga K "may_cut"))
  g_cuts_at : mg "cuts_at" = some (.ref (He.ga K "cuts_at"))
  g_deeds_at : mg "deeds_at" = some (.ref (He.ga K "deeds_at"))
  g__law_same : mg "_law_same" = some (.ref (He.ga K "_law_same"))
  g_law : mg "law" = some (.ref (He.ga K "law"))
  k_MOST_CHARACTERS : ∃ t, mg "MOST_CHARACTERS" = some (.int 8 t)
  k_LETTERS : ∃ t, mg "LETTERS" = some (.str "abcdefghijklmnopqrstuvwxyz" t)
  k_LETTERS_AND_DIGITS : ∃ t, mg "LETTERS_AND_DIGITS" = some (.str "abcdefghijklmnopqrstuvwxyz0123456789" t)
  k_MOST_SIDE : ∃ t, mg "MOST_SIDE" = some (.int 60 t)
  k_MOST_COST : ∃ t, mg "MOST_COST" = some (.int 1000000000 t)
  k_MOST_AREA : ∃ t, mg "MOST_AREA" = some (.int 120 t)
  k_MOST_HIGH : ∃ t, mg "MOST_HIGH" = some (.int 6 t)
  k_MOST_SUPPLY : ∃ t, mg "MOST_SUPPLY" = some (.int 6 t)
  k_MOST_FAULTS : ∃ t, mg "MOST_FAULTS" = some (.int 4 t)
  k_MOST_KINDS : ∃ t, mg "MOST_KINDS" = some (.int 6 t)
  k_MOST_BOARD_SORTS : ∃ t, mg "MOST_BOARD_SORTS" = some (.int 4 t)
  k_MOST_DAYS : ∃ t, mg "MOST_DAYS" = some (.int 3 t)
  k_MOST_RESTS : ∃ t, mg "MOST_RESTS" = some (.int 3 t)
  k_MOST_KERF : ∃ t, mg "MOST_KERF" = some (.int 20 t)
  k_MOST_STAGES : ∃ t, mg "MOST_STAGES" = some (.int 8 t)
  k_FIRST_CELL : ∃ t, mg "FIRST_CELL" = some (.int 5 t)
  d__law_pool : ∃ fd, FunD K "_law_pool" "_law_pool" (defArgs s__law_pool) (defBody s__law_pool) (defScope s__law_pool) [] [] (He.ga K "_law_pool") fd
  d__law_draw : ∃ fd, FunD K "_law_draw" "_law_draw" (defArgs s__law_draw) (defBody s__law_draw) (defScope s__law_draw) [] [] (He.ga K "_law_draw") fd
  d__law_drawn : ∃ fd, FunD K "_law_drawn" "_law_drawn" (defArgs s__law_drawn) (defBody s__law_drawn) (defScope s__law_drawn) [] [] (He.ga K "_law_drawn") fd
  d_is_name : ∃ fd, FunD K "is_name" "is_name" (defArgs s_is_name) (defBody s_is_name) (defScope s_is_name) [] [] (He.ga K "is_name") fd
  d_check_name : ∃ fd, FunD K "check_name" "check_name" (defArgs s_check_name) (defBody s_check_name) (defScope s_check_name) [] [] (He.ga K "check_name") fd
  d_in_range : ∃ fd, FunD K "in_range" "in_range" (defArgs s_in_range) (defBody s_in_range) (defScope s_in_range) [] [] (He.ga K "in_range") fd
  d_check_sides : ∃ fd, FunD K "check_sides" "check_sides" (defArgs s_check_sides) (defBody s_check_sides) (defScope s_check_sides) [] [] (He.ga K "check_sides") fd
  d_init_Kind : ∃ fd, FunD K "__init__" "Kind.__init__" (defArgs s_init_Kind) (defBody s_init_Kind) (defScope s_init_Kind) [.int 0] [("turns", .bl false)] (He.ma K (He.ga K "Kind") "__init__") fd
  d_init_Rest : ∃ fd, FunD K "__init__" "Rest.__init__" (defArgs s_init_Rest) (defBody s_init_Rest) (defScope s_init_Rest) [.int 0] [] (He.ma K (He.ga K "Rest") "__init__") fd
  d_init_Day : ∃ fd, FunD K "__init__" "Day.__init__" (defArgs s_init_Day) (defBody s_init_Day) (defScope s_init_Day) [] [] (He.ma K (He.ga K "Day") "__init__") fd
  d_ascending_cells : ∃ fd, FunD K "ascending_cells" "ascending_cells" (defArgs s_ascending_cells) (defBody s_ascending_cells) (defScope s_ascending_cells) [] [] (He.ga K "ascending_cells") fd
  d_init_Board : ∃ fd, FunD K "__init__" "Board.__init__" (defArgs s_init_Board) (defBody s_init_Board) (defScope s_init_Board) [] [("trim", .int 0), ("faults", .ref (kwdAt ("Board", some "__init__") "faults" K))] (He.ma K (He.ga K "Board") "__init__") fd
  e_init_Board_faults : emptyB K (kwdAt ("Board", some "__init__") "faults" K) = true
  d_check_many : ∃ fd, FunD K "check_many" "check_many" (defArgs s_check_many) (defBody s_check_many) (defScope s_check_many) [] [] (He.ga K "check_many") fd
  d_check_names : ∃ fd, FunD K "check_names" "check_names" (defArgs s_check_names) (defBody s_check_names) (defScope s_check_names) [] [] (He.ga K "check_names") fd
  d_check_days : ∃ fd, FunD K "check_days" "check_days" (defArgs s_check_days) (defBody s_check_days) (defScope s_check_days) [] [] (He.ga K "check_days") fd
  d_count_lots : ∃ fd, FunD K "count_lots" "count_lots" (defArgs s_count_lots) (defBody s_count_lots) (defScope s_count_lots) [] [] (He.ga K "count_lots") fd
  d_init_Sheet : ∃ fd, FunD K "__init__" "Sheet.__init__" (defArgs s_init_Sheet) (defBody s_init_Sheet) (defScope s_init_Sheet) [] [("rests", .ref (kwdAt ("Sheet", some "__init__") "rests" K)), ("kerf", .int 0), ("stages", .non), ("cut_cost", .int 0)] (He.ma K (He.ga K "Sheet") "__init__") fd
  e_init_Sheet_rests : emptyB K (kwdAt ("Sheet", some "__init__") "rests" K) = true
  d__law_built : ∃ fd, FunD K "_law_built" "_law_built" (defArgs s__law_built) (defBody s__law_built) (defScope s__law_built) [] [] (He.ga K "_law_built") fd
  d__law_ascending : ∃ fd, FunD K "_law_ascending" "_law_ascending" (defArgs s__law_ascending) (defBody s__law_ascending) (defScope s__law_ascending) [] [] (He.ga K "_law_ascending") fd
  d__law_part : ∃ fd, FunD K "_law_part" "_law_part" (defArgs s__law_part) (defBody s__law_part) (defScope s__law_part) [] [] (He.ga K "_law_part") fd
  d__law_list : ∃ fd, FunD K "_law_list" "_law_list" (defArgs s__law_list) (defBody s__law_list) (defScope s__law_list) [] [] (He.ga K "_law_list") fd
  d_thing_at : ∃ fd, FunD K "thing_at" "thing_at" (defArgs s_thing_at) (defBody s_thing_at) (defScope s_thing_at) [] [] (He.ga K "thing_at") fd
  d_kind_at : ∃ fd, FunD K "kind_at" "kind_at" (defArgs s_kind_at) (defBody s_kind_at) (defScope s_kind_at) [] [] (He.ga K "kind_at") fd
  d_is_clean : ∃ fd, FunD K "is_clean" "is_clean" (defArgs s_is_clean) (defBody s_is_clean) (defScope s_is_clean) [] [] (He.ga K "is_clean") fd
  d_fits : ∃ fd, FunD K "fits" "fits" (defArgs s_fits) (defBody s_fits) (defScope s_fits) [] [] (He.ga K "fits") fd
  d_holds_rest : ∃ fd, FunD K "holds_rest" "holds_rest" (defArgs s_holds_rest) (defBody s_holds_rest) (defScope s_holds_rest) [] [] (He.ga K "holds_rest") fd
  d_ends_at : ∃ fd, FunD K "ends_at" "ends_at" (defArgs s_ends_at) (defBody s_ends_at) (defScope s_ends_at) [] [] (He.ga K "ends_at") fd
  d_side_of : ∃ fd, FunD K "side_of" "side_of" (defArgs s_side_of) (defBody s_side_of) (defScope s_side_of) [] [] (He.ga K "side_of") fd
  d_may_cut : ∃ fd, FunD K "may_cut" "may_cut" (defArgs s_may_cut) (defBody s_may_cut) (defScope s_may_cut) [] [] (He.ga K "may_cut") fd
  d_cuts_at : ∃ fd, FunD K "cuts_at" "cuts_at" (defArgs s_cuts_at) (defBody s_cuts_at) (defScope s_cuts_at) [] [] (He.ga K "cuts_at") fd
  d_deeds_at : ∃ fd, FunD K "deeds_at" "deeds_at" (defArgs s_deeds_at) (defBody s_deeds_at) (defScope s_deeds_at) [] [] (He.ga K "deeds_at") fd
  d__law_same : ∃ fd, FunD K "_law_same" "_law_same" (defArgs s__law_same) (defBody s__law_same) (defScope s__law_same) [] [] (He.ga K "_law_same") fd
  d_law : ∃ fd, FunD K "law" "law" (defArgs s_law) (defBody s_law) (defScope s_law) [] [] (He.ga K "law") fd
  m_Kind : Mk K (gaC K "Kind") (He.ma K (He.ga K "Kind") "__init__")
  m_Rest : Mk K (gaC K "Rest") (He.ma K (He.ga K "Rest") "__init__")
  m_Day : Mk K (gaC K "Day") (He.ma K (He.ga K "Day") "__init__")
  m_Board : Mk K (gaC K "Board") (He.ma K (He.ga K "Board") "__init__")
  m_Sheet : Mk K (gaC K "Sheet") (He.ma K (He.ga K "Sheet") "__init__")
section
variable {P : Program} {w : World} {K : PySem.W.Frag} {mg : Str → Option Value} {base : Heap}
theorem fn__law_pool (T : Txt K mg) {f : Addr} {fd : FuncData} (F : FunD K "_law_pool" "_law_pool" (defArgs s__law_pool) (defBody s__law_pool) (defScope s__law_pool) [] [] f fd) : FnOk P w K mg base (L2.CX P w) 1 f fd ps__law_pool (spI K F__law_pool ps__law_pool.length) := by
  exact fn_ok finL_ok (N := N__law_pool) (ps := ps__law_pool) (k := 0) F sc__law_pool (fun cdv A outer s H E hr tk hp => bi_cons (si_setLc 1 (own := [("cell", 2)]) rfl (sc__law_pool).nd (ii_any (ei_sl (ei_var 0) (oi_none) (oi_some (ei_int)))) (blkOk_by (N := N__law_pool) (sc := defScope s__law_pool) (by decide +kernel)) (fun _ _ _ _ _ => gi_name 2 (sc__law_pool).nd) (fun _ _ _ _ _ => tsi_nil) (fun _ _ _ _ _ => ei_abs T.g_abs (ai_cons (ei_intc T.g_int (ai_cons (ei_var 2) (ai_nil))) (ai_nil))) (sw_true rfl rfl rfl (by decide +kernel))) (bi_cons (si_for (vs := [2]) hp rfl (ii_any (ei_var 1)) (gi_name 2 (sc__law_pool).nd) (bi_one (si_if (ti_cmp op_ge os_ge (ei_var 2) (ei_op op_pow os_pow (ei_int) (ei_int))) (bi_one (si_ret (ei_lstL (ai_cons (ei_var 2) (ai_nil))))) (bi_nil)))) (bi_cons (si_set 3 (sc__law_pool).nd (ei_op op_addD os_add (ei_int) (ei_len T.g_len (ai_cons (ei_var 1) (ai_nil))))) (bi_cons (si_for (vs := [2]) hp rfl (ii_any (ei_var 1)) (gi_name 2 (sc__law_pool).nd) (bi_one (si_set 3 (sc__law_pool).nd (ei_op op_addD os_add (ei_op op_addD os_add (ei_op op_mulD os_mul (ei_var 3) (ei_int)) (ei_var 2)) (ei_int))))) (bi_cons (si_for (vs := [4]) hp rfl (ii_rng1 rfl T.g_range (ai_cons (ei_int) (ai_nil))) (gi_name 4 (sc__law_pool).nd) (bi_one (si_set 3 (sc__law_pool).nd (ei_op op_addD os_add (ei_op op_mulD os_mul (ei_var 3) (ei_op op_addD os_add (ei_op op_mod os_mod (ei_intc T.g_int (ai_cons (ei_var 3) (ai_nil))) (ei_int)) (ei_int))) (ei_var 4))))) (bi_one (si_ret (ei_lstL (ai_cons (ei_var 3) (ai_nil))))))))))
theorem ok__law_pool (T : Txt K mg) : Has P w K mg base 1 "_law_pool" (He.ga K "_law_pool") ps__law_pool F__law_pool := by
  obtain ⟨fd, F⟩ := T.d__law_pool
  exact ⟨⟨fd, fn__law_pool T F, F.bindsN (fun _ _ _ _ _ _ us hl => match us, hl with | [_], _ => rfl)⟩, T.g__law_pool, F.kp⟩
theorem fn__law_draw (T : Txt K mg) {f : Addr} {fd : FuncData} (F : FunD K "_law_draw" "_law_draw" (defArgs s__law_draw) (defBody s__law_draw) (defScope s__law_draw) [] [] f fd) : FnOk P w K mg base (L2.CX P w) 1 f fd ps__law_draw (spI K F__law_draw ps__law_draw.length) := by
  exact fn_ok finR_ok (N := N__law_draw) (ps := ps__law_draw) (k := 0) F sc__law_draw (fun cdv A outer s H E hr tk hp => bi_cons (si_set 2 (sc__law_draw).nd (ei_op op_mod os_mod (ei_intc T.g_int (ai_cons (ei_ix (ei_var 0) (ei_int)) (ai_nil))) (ei_var 1))) (bi_cons (si_sets 0 (ei_var 0) (ei_int) (ei_op op_fdivW os_div (ei_intc T.g_int (ai_cons (ei_ix (ei_var 0) (ei_int)) (ai_nil))) (ei_var 1))) (bi_one (si_ret (ei_var 2)))))
theorem ok__law_draw (T : Txt K mg) : Has P w K mg base 1 "_law_draw" (He.ga K "_law_draw") ps__law_draw F__law_draw := by
  obtain ⟨fd, F⟩ := T.d__law_draw
  exact ⟨⟨fd, fn__law_draw T F, F.bindsN (fun _ _ _ _ _ _ us hl => match us, hl with | [_, _], _ => rfl)⟩, T.g__law_draw, F.kp⟩
theorem fn__law_drawn (T : Txt K mg) {f : Addr} {fd : FuncData} (F : FunD K "_law_drawn" "_law_drawn" (defArgs s__law_drawn) (defBody s__law_drawn) (defScope s__law_drawn) [] [] f fd) : FnOk P w K mg base (L2.CX P w) 2 f fd ps__law_drawn (spI K F__law_drawn ps__law_drawn.length) := by
  have h__law_draw := ok__law_draw (P := P) (w := w) (base := base) T
  exact fn_ok finR_ok (N := N__law_drawn) (ps := ps__law_drawn) (k := 1) F sc__law_drawn (fun cdv A outer s H E hr tk hp => bi_cons (si_set 1 (sc__law_drawn).nd (ei_lst (ai_cons (ei_op op_addD os_add (ei_int) (ei_f h__law_draw hr tk (by decide) (ai_cons (ei_var 0) (ai_cons (ei_int) (ai_nil))) (axn_cons (axn_cons (axn_nil))))) (ai_cons (ei_f h__law_draw hr tk (by decide) (ai_cons (ei_var 0) (ai_cons (ei_int) (ai_nil))) (axn_cons (axn_cons (axn_nil)))) (ai_cons (ei_op op_addD os_add (ei_int) (ei_f h__law_draw hr tk (by decide) (ai_cons (ei_var 0) (ai_cons (ei_int) (ai_nil))) (axn_cons (axn_cons (axn_nil))))) (ai_nil)))))) (bi_cons (si_if (ti_cmp (op_eq2 hr.units) os_eq (ei_f h__law_draw hr tk (by decide) (ai_cons (ei_var 0) (ai_cons (ei_int) (ai_nil))) (axn_cons (axn_cons (axn_nil)))) (ei_int)) (bi_one (si_set 1 (sc__law_drawn).nd (ei_lst (ai_cons (ei_int) (ai_cons (ei_int) (ai_cons (ei_int) (ai_nil))))))) (bi_nil)) (bi_cons (si_set 2 (sc__law_drawn).nd (ei_ix (ei_lst (ai_cons (ei_non) (ai_cons (ei_int) (ai_cons (ei_int) (ai_cons (ei_int) (ai_nil)))))) (ei_f h__law_draw hr tk (by decide) (ai_cons (ei_var 0) (ai_cons (ei_int) (ai_nil))) (axn_cons (axn_cons (axn_nil)))))) (bi_cons (si_set 3 (sc__law_drawn).nd (ei_lstL (ai_nil))) (bi_cons (si_for (vs := [4]) hp rfl (ii_rng1 rfl T.g_range (ai_cons (ei_ix (ei_var 1) (ei_int)) (ai_nil))) (gi_name 4 (sc__law_drawn).nd) (bi_cons (si_set 6 (sc__law_drawn).nd (ei_lst (ai_cons (ei_op op_addD os_add (ei_int) (ei_f h__law_draw hr tk (by decide) (ai_cons (ei_var 0) (ai_cons (ei_int) (ai_nil))) (axn_cons (axn_cons (axn_nil))))) (ai_cons (ei_op op_addD os_add (ei_int) (ei_f h__law_draw hr tk (by decide) (ai_cons (ei_var 0) (ai_cons (ei_int) (ai_nil))) (axn_cons (axn_cons (axn_nil))))) (ai_nil))))) (bi_one (si_app 3 (ei_var 3) (ei_op op_addD os_add (ei_op op_addD os_add (ei_lst (ai_cons (ei_ix (ei_str) (ei_var 4)) (ai_nil))) (ei_var 6)) (ei_lst (ai_cons (ei_cmp (op_eq2 hr.units) os_eq (ei_f h__law_draw hr tk (by decide) (ai_cons (ei_var 0) (ai_cons (ei_int) (ai_nil))) (axn_cons (axn_cons (axn_nil)))) (ei_int)) (ai_nil)))))))) (bi_frz 3 (bi_cons (si_set 5 (sc__law_drawn).nd (ei_lstL (ai_nil))) (bi_cons (si_for (vs := [4]) hp rfl (ii_rng1 rfl T.g_range (ai_cons (ei_ix (ei_var 1) (ei_int)) (ai_nil))) (gi_name 4 (sc__law_drawn).nd) (bi_one (si_app 5 (ei_var 5) (ei_lst (ai_cons (ei_ix (ei_str) (ei_var 4)) (ai_cons (ei_op op_addD os_add (ei_int) (ei_f h__law_draw hr tk (by decide) (ai_cons (ei_var 0) (ai_cons (ei_int) (ai_nil))) (axn_cons (axn_cons (axn_nil))))) (ai_cons (ei_op op_addD os_add (ei_int) (ei_f h__law_draw hr tk (by decide) (ai_cons (ei_var 0) (ai_cons (ei_int) (ai_nil))) (axn_cons (axn_cons (axn_nil))))) (ai_nil)))))))) (bi_frz 5 (bi_one (si_ret (ei_lst (ai_cons (ei_var 3) (ai_cons (ei_var 5) (ai_cons (ei_ix (ei_var 1) (ei_int)) (ai_cons (ei_var 2) (ai_cons (ei_f h__law_draw hr tk (by decide) (ai_cons (ei_var 0) (ai_cons (ei_int) (ai_nil))) (axn_cons (axn_cons (axn_nil)))) (ai_nil))))))))))))))))))
theorem ok__law_drawn (T : Txt K mg) : Has P w K mg base 2 "_law_drawn" (He.ga K "_law_drawn") ps__law_drawn F__law_drawn := by
  obtain ⟨fd, F⟩ := T.d__law_drawn
  exact ⟨⟨fd, fn__law_drawn T F, F.bindsN (fun _ _ _ _ _ _ us hl => match us, hl with | [_], _ => rfl)⟩, T.g__law_drawn, F.kp⟩
theorem fn_is_name (T : Txt K mg) {f : Addr} {fd : FuncData} (F : FunD K "is_name" "is_name" (defArgs s_is_name) (defBody s_is_name) (defScope s_is_name) [] [] f fd) : FnOk P w K mg base (L2.CX P w) 1 f fd ps_is_name (spI K F_is_name ps_is_name.length) := by
  exact fn_ok finR_ok (N := N_is_name) (ps := ps_is_name) (k := 0) F sc_is_name (fun cdv A outer s H E hr tk hp => bi_cons (si_if (ti_not (ti_chain op_le os_le op_le os_le (ei_int) (ei_len T.g_len (ai_cons (ei_var 0) (ai_nil))) (ei_ki T.k_MOST_CHARACTERS))) (bi_one (si_ret (ei_bl))) (bi_nil)) (bi_cons (si_if (ti_cmp (op_notIn2 hr.units) os_notIn (ei_ix (ei_var 0) (ei_int)) (ei_ks T.k_LETTERS)) (bi_one (si_ret (ei_bl))) (bi_nil)) (bi_cons (si_for (vs := [1]) hp rfl (ii_any (ei_var 0)) (gi_name 1 (sc_is_name).nd) (bi_one (si_if (ti_cmp (op_notIn2 hr.units) os_notIn (ei_var 1) (ei_ks T.k_LETTERS_AND_DIGITS)) (bi_one (si_ret (ei_bl))) (bi_nil)))) (bi_one (si_ret (ei_bl))))))
theorem ok_is_name (T : Txt K mg) : Has P w K mg base 1 "is_name" (He.ga K "is_name") ps_is_name F_is_name := by
  obtain ⟨fd, F⟩ := T.d_is_name
  exact ⟨⟨fd, fn_is_name T F, F.bindsN (fun _ _ _ _ _ _ us hl => match us, hl with | [_], _ => rfl)⟩, T.g_is_name, F.kp⟩
theorem fn_check_name (T : Txt K mg) {f : Addr} {fd : FuncData} (F : FunD K "check_name" "check_name" (defArgs s_check_name) (defBody s_check_name) (defScope s_check_name) [] [] f fd) : FnOk P w K mg base (L2.CX P w) 2 f fd ps_check_name (spI K F_check_name ps_check_name.length) := by
  have h_is_name := ok_is_name (P := P) (w := w) (base := base) T
  exact fn_ok finR_ok (N := N_check_name) (ps := ps_check_name) (k := 1) F sc_check_name (fun cdv A outer s H E hr tk hp => bi_one (si_if (ti_not (ti_val (ei_f h_is_name hr tk (by decide) (ai_cons (ei_var 0) (ai_nil)) (axn_cons (axn_nil))))) (bi_one (si_bad)) (bi_nil)))
theorem ok_check_name (T : Txt K mg) : Has P w K mg base 2 "check_name" (He.ga K "check_name") ps_check_name F_check_name := by
  obtain ⟨fd, F⟩ := T.d_check_name
  exact ⟨⟨fd, fn_check_name T F, F.bindsN (fun _ _ _ _ _ _ us hl => match us, hl with | [_], _ => rfl)⟩, T.g_check_name, F.kp⟩
theorem fn_in_range (T : Txt K mg) {f : Addr} {fd : FuncData} (F : FunD K "in_range" "in_range" (defArgs s_in_range) (defBody s_in_range) (defScope s_in_range) [] [] f fd) : FnOk P w K mg base (L2.CX P w) 1 f fd ps_in_range (spI K F_in_range ps_in_range.length) := by
  exact fn_ok finR_ok (N := N_in_range) (ps := ps_in_range) (k := 0) F sc_in_range (fun cdv A outer s H E hr tk hp => bi_one (si_if (ti_not (ti_chain op_le os_le op_le os_le (ei_var 2) (ei_var 1) (ei_var 3))) (bi_one (si_bad)) (bi_nil)))
theorem ok_in_range (T : Txt K mg) : Has P w K mg base 1 "in_range" (He.ga K "in_range") ps_in_range F_in_range := by
  obtain ⟨fd, F⟩ := T.d_in_range
  exact ⟨⟨fd, fn_in_range T F, F.bindsN (fun _ _ _ _ _ _ us hl => match us, hl with | [_, _, _, _], _ => rfl)⟩, T.g_in_range, F.kp⟩
theorem fn_check_sides (T : Txt K mg) {f : Addr} {fd : FuncData} (F : FunD K "check_sides" "check_sides" (defArgs s_check_sides) (defBody s_check_sides) (defScope s_check_sides) [] [] f fd) : FnOk P w K mg base (L2.CX P w) 2 f fd ps_check_sides (spI K F_check_sides ps_check_sides.length) := by
  have h_in_range := ok_in_range (P := P) (w := w) (base := base) T
  exact fn_ok finR_ok (N := N_check_sides) (ps := ps_check_sides) (k := 1) F sc_check_sides (fun cdv A outer s H E hr tk hp => bi_cons (si_drop (ei_f h_in_range hr tk (by decide) (ai_cons (ei_str) (ai_cons (ei_var 0) (ai_cons (ei_int) (ai_cons (ei_ki T.k_MOST_SIDE) (ai_nil))))) (axn_cons (axn_cons (axn_cons (axn_cons (axn_nil))))))) (bi_one (si_drop (ei_f h_in_range hr tk (by decide) (ai_cons (ei_str) (ai_cons (ei_var 1) (ai_cons (ei_int) (ai_cons (ei_ki T.k_MOST_SIDE) (ai_nil))))) (axn_cons (axn_cons (axn_cons (axn_cons (axn_nil)))))))))
theorem ok_check_sides (T : Txt K mg) : Has P w K mg base 2 "check_sides" (He.ga K "check_sides") ps_check_sides F_check_sides := by
  obtain ⟨fd, F⟩ := T.d_check_sides
  exact ⟨⟨fd, fn_check_sides T F, F.bindsN (fun _ _ _ _ _ _ us hl => match us, hl with | [_, _], _ => rfl)⟩, T.g_check_sides, F.kp⟩
theorem fn_init_Kind (T : Txt K mg) {f : Addr} {fd : FuncData} (F : FunD K "__init__" "Kind.__init__" (defArgs s_init_Kind) (defBody s_init_Kind) (defScope s_init_Kind) [.int 0] [("turns", .bl false)] f fd) : FnOk P w K mg base (L2.CX P w) 3 f fd ps_init_Kind (spI K F_init_Kind ps_init_Kind.length) := by
  have h_check_name := ok_check_name (P := P) (w := w) (base := base) T
  have h_check_sides := ok_check_sides (P := P) (w := w) (base := base) T
  have h_in_range := ok_in_range (P := P) (w := w) (base := base) T
  exact fn_ok finR_ok (N := N_init_Kind) (ps := ps_init_Kind) (k := 2) F sc_init_Kind (fun cdv A outer s H E hr tk hp => bi_cons (si_drop (ei_f h_check_name hr tk (by decide) (ai_cons (ei_var 1) (ai_nil)) (axn_cons (axn_nil)))) (bi_cons (si_drop (ei_f h_check_sides hr tk (by decide) (ai_cons (ei_var 2) (ai_cons (ei_var 3) (ai_nil))) (axn_cons (axn_cons (axn_nil))))) (bi_cons (si_drop (ei_f h_in_range hr tk (by decide) (ai_cons (ei_str) (ai_cons (ei_var 4) (ai_cons (ei_int) (ai_cons (ei_ki T.k_MOST_COST) (ai_nil))))) (axn_cons (axn_cons (axn_cons (axn_cons (axn_nil))))))) (bi_cons (si_fld 0 "name" T.pok (ei_var 0) (ei_var 1)) (bi_cons (si_fld 0 "length" T.pok (ei_var 0) (ei_var 2)) (bi_cons (si_fld 0 "width" T.pok (ei_var 0) (ei_var 3)) (bi_cons (si_fld 0 "price" T.pok (ei_var 0) (ei_var 4)) (bi_one (si_fld 0 "turns" T.pok (ei_var 0) (ei_var 5))))))))))
theorem ok_init_Kind_k0 (T : Txt K mg) : HasM P w K mg base 3 "Kind" ps_init_Kind 3 ["turns"] (fun xs ys => perm [0, 1, 2, 3, 4, 5] (xs ++ ([.int 0] ++ ([] ++ ys)))) F_init_Kind := by
  obtain ⟨fd, F⟩ := T.d_init_Kind
  exact ⟨⟨_, fd, T.m_Kind, fn_init_Kind T F, kb4 F 4 ["turns"] [] [0, 1, 2, 3, 4, 5] [.int 0] [] (List.cons_ne_nil _ _) (List.cons_ne_nil _ _) (fun q hq => nomatch hq) (.cons (.int _) (.nil)) (.nil) (fun _ _ _ _ _ _ _ us its mv ws h1 h2 h3 h4 => match us, its, mv, ws, h1, h2, h3, h4 with | [_, _, _, _], [_], [], [_], _, _, _, _ => ⟨_, rfl, rfl⟩)⟩, T.g_Kind⟩
theorem fn_init_Rest (T : Txt K mg) {f : Addr} {fd : FuncData} (F : FunD K "__init__" "Rest.__init__" (defArgs s_init_Rest) (defBody s_init_Rest) (defScope s_init_Rest) [.int 0] [] f fd) : FnOk P w K mg base (L2.CX P w) 3 f fd ps_init_Rest (spI K F_init_Rest ps_init_Rest.length) := by
  have h_check_name := ok_check_name (P := P) (w := w) (base := base) T
  have h_check_sides := ok_check_sides (P := P) (w := w) (base := base) T
  have h_in_range := ok_in_range (P := P) (w := w) (base := base) T
  exact fn_ok finR_ok (N := N_init_Rest) (ps := ps_init_Rest) (k := 2) F sc_init_Rest (fun cdv A outer s H E hr tk hp => bi_cons (si_drop (ei_f h_check_name hr tk (by decide) (ai_cons (ei_var 1) (ai_nil)) (axn_cons (axn_nil)))) (bi_cons (si_drop (ei_f h_check_sides hr tk (by decide) (ai_cons (ei_var 2) (ai_cons (ei_var 3) (ai_nil))) (axn_cons (axn_cons (axn_nil))))) (bi_cons (si_drop (ei_f h_in_range hr tk (by decide) (ai_cons (ei_str) (ai_cons (ei_var 4) (ai_cons (ei_int) (ai_cons (ei_ki T.k_MOST_COST) (ai_nil))))) (axn_cons (axn_cons (axn_cons (axn_cons (axn_nil))))))) (bi_cons (si_drop (ei_f h_in_range hr tk (by decide) (ai_cons (ei_str) (ai_cons (ei_op op_mulD os_mul (ei_var 2) (ei_var 3)) (ai_cons (ei_int) (ai_cons (ei_ki T.k_MOST_AREA) (ai_nil))))) (axn_cons (axn_cons (axn_cons (axn_cons (axn_nil))))))) (bi_cons (si_fld 0 "name" T.pok (ei_var 0) (ei_var 1)) (bi_cons (si_fld 0 "length" T.pok (ei_var 0) (ei_var 2)) (bi_cons (si_fld 0 "width" T.pok (ei_var 0) (ei_var 3)) (bi_one (si_fld 0 "cost" T.pok (ei_var 0) (ei_var 4))))))))))
theorem ok_init_Rest_k0 (T : Txt K mg) : HasM P w K mg base 3 "Rest" ps_init_Rest 3 [] (fun xs ys => perm [0, 1, 2, 3, 4] (xs ++ ([.int 0] ++ ys))) F_init_Rest := by
  obtain ⟨fd, F⟩ := T.d_init_Rest
  exact ⟨⟨_, fd, T.m_Rest, fn_init_Rest T F, kb3D F 4 [] [0, 1, 2, 3, 4] [.int 0] (List.cons_ne_nil _ _) (.cons (.int _) (.nil)) (fun _ _ _ _ _ _ _ us its ws h1 h2 h3 => match us, its, ws, h1, h2, h3 with | [_, _, _, _], [_], [], _, _, _ => ⟨_, rfl, rfl⟩)⟩, T.g_Rest⟩
theorem fn_init_Day (T : Txt K mg) {f : Addr} {fd : FuncData} (F : FunD K "__init__" "Day.__init__" (defArgs s_init_Day) (defBody s_init_Day) (defScope s_init_Day) [] [] f fd) : FnOk P w K mg base (L2.CX P w) 2 f fd ps_init_Day (spI K F_init_Day ps_init_Day.length) := by
  have h_in_range := ok_in_range (P := P) (w := w) (base := base) T
  exact fn_ok finR_ok (N := N_init_Day) (ps := ps_init_Day) (k := 1) F sc_init_Day (fun cdv A outer s H E hr tk hp => bi_cons (si_for (vs := [3, 4]) hp rfl (ii_any (ei_var 1)) (gi_tup 2 rfl (gsi_cons (gi_name 3 (sc_init_Day).nd) (gsi_cons (gi_name 4 (sc_init_Day).nd) (gsi_nil))) (len_cons (len_cons (len_nil)))) (bi_cons (si_drop (ei_f h_in_range hr tk (by decide) (ai_cons (ei_str) (ai_cons (ei_var 4) (ai_cons (ei_int) (ai_cons (ei_ki T.k_MOST_HIGH) (ai_nil))))) (axn_cons (axn_cons (axn_cons (axn_cons (axn_nil))))))) (bi_one (si_drop (ei_f h_in_range hr tk (by decide) (ai_cons (ei_str) (ai_cons (ei_var 3) (ai_cons (ei_int) (ai_cons (ei_var 4) (ai_nil))))) (axn_cons (axn_cons (axn_cons (axn_cons (axn_nil)))))))))) (bi_cons (si_for (vs := [5]) hp rfl (ii_any (ei_var 2)) (gi_name 5 (sc_init_Day).nd) (bi_one (si_drop (ei_f h_in_range hr tk (by decide) (ai_cons (ei_str) (ai_cons (ei_var 5) (ai_cons (ei_int) (ai_cons (ei_ki T.k_MOST_SUPPLY) (ai_nil))))) (axn_cons (axn_cons (axn_cons (axn_cons (axn_nil))))))))) (bi_cons (si_fld 0 "orders" T.pok (ei_var 0) (ei_tupc T.g_tuple (ai_cons (ei_lc (own := [("low", 3), ("high", 4)]) rfl (sc_init_Day).nd (ii_any (ei_var 1)) (blkOk_by (N := N_init_Day) (sc := defScope s_init_Day) (by decide +kernel)) (fun _ _ _ _ _ => gi_tup 2 rfl (gsi_cons (gi_name 3 (sc_init_Day).nd) (gsi_cons (gi_name 4 (sc_init_Day).nd) (gsi_nil))) (len_cons (len_cons (len_nil)))) (fun _ _ _ _ _ => tsi_nil) (fun _ _ _ _ _ => ei_tup (ai_cons (ei_var 3) (ai_cons (ei_var 4) (ai_nil))))) (ai_nil)))) (bi_one (si_fld 0 "supplies" T.pok (ei_var 0) (ei_tupc T.g_tuple (ai_cons (ei_var 2) (ai_nil))))))))
theorem ok_init_Day_k0 (T : Txt K mg) : HasM P w K mg base 2 "Day" ps_init_Day 2 [] (fun xs ys => perm [0, 1, 2] (xs ++ ys)) F_init_Day := by
  obtain ⟨fd, F⟩ := T.d_init_Day
  exact ⟨⟨_, fd, T.m_Day, fn_init_Day T F, kb2 F 3 [] [0, 1, 2] (fun _ _ _ _ _ _ us ws h1 h2 => match us, ws, h1, h2 with | [_, _, _], [], _, _ => rfl)⟩, T.g_Day⟩
theorem fn_ascending_cells (T : Txt K mg) {f : Addr} {fd : FuncData} (F : FunD K "ascending_cells" "ascending_cells" (defArgs s_ascending_cells) (defBody s_ascending_cells) (defScope s_ascending_cells) [] [] f fd) : FnOk P w K mg base (L2.CX P w) 1 f fd ps_ascending_cells (spI K F_ascending_cells ps_ascending_cells.length) := by
  exact fn_ok finR_ok (N := N_ascending_cells) (ps := ps_ascending_cells) (k := 0) F sc_ascending_cells (fun cdv A outer s H E hr tk hp => bi_cons (si_set 1 (sc_ascending_cells).nd (ei_sorted T.g_sorted (ai_cons (ei_lc (own := [("x", 2), ("y", 3)]) rfl (sc_ascending_cells).nd (ii_any (ei_var 0)) (blkOk_by (N := N_ascending_cells) (sc := defScope s_ascending_cells) (by decide +kernel)) (fun _ _ _ _ _ => gi_tup 2 rfl (gsi_cons (gi_name 2 (sc_ascending_cells).nd) (gsi_cons (gi_name 3 (sc_ascending_cells).nd) (gsi_nil))) (len_cons (len_cons (len_nil)))) (fun _ _ _ _ _ => tsi_nil) (fun _ _ _ _ _ => ei_tup (ai_cons (ei_var 2) (ai_cons (ei_var 3) (ai_nil))))) (ai_nil)))) (bi_one (si_ret (ei_tupc T.g_tuple (ai_cons (ei_lc (own := [("at", 4), ("pair", 5)]) rfl (sc_ascending_cells).nd (ii_enum rfl T.g_enumerate (ei_var 1)) (blkOk_by (N := N_ascending_cells) (sc := defScope s_ascending_cells) (by decide +kernel)) (fun _ _ _ _ _ => gi_tup 2 rfl (gsi_cons (gi_name 4 (sc_ascending_cells).nd) (gsi_cons (gi_name 5 (sc_ascending_cells).nd) (gsi_nil))) (len_cons (len_cons (len_nil)))) (fun _ _ _ _ _ => tsi_one (ti_w (tw_or (ti_cmp (op_eq2 hr.units) os_eq (ei_var 4) (ei_int)) (tw_or1 (ti_cmp (op_ne2 hr.units) os_ne (ei_var 5) (ei_ix (ei_var 1) (ei_op op_sub os_sub (ei_var 4) (ei_int)))))))) (fun _ _ _ _ _ => ei_var 5)) (ai_nil))))))
theorem ok_ascending_cells (T : Txt K mg) : Has P w K mg base 1 "ascending_cells" (He.ga K "ascending_cells") ps_ascending_cells F_ascending_cells := by
  obtain ⟨fd, F⟩ := T.d_ascending_cells
  exact ⟨⟨fd, fn_ascending_cells T F, F.bindsN (fun _ _ _ _ _ _ us hl => match us, hl with | [_], _ => rfl)⟩, T.g_ascending_cells, F.kp⟩
theorem fn_init_Board (T : Txt K mg) {f : Addr} {fd : FuncData} (F : FunD K "__init__" "Board.__init__" (defArgs s_init_Board) (defBody s_init_Board) (defScope s_init_Board) [] [("trim", .int 0), ("faults", .ref (kwdAt ("Board", some "__init__") "faults" K))] f fd) : FnOk P w K mg base (L2.CX P w) 3 f fd ps_init_Board (spI K F_init_Board ps_init_Board.length) := by
  have h_check_name := ok_check_name (P := P) (w := w) (base := base) T
  have h_check_sides := ok_check_sides (P := P) (w := w) (base := base) T
  have h_in_range := ok_in_range (P := P) (w := w) (base := base) T
  have h_ascending_cells := ok_ascending_cells (P := P) (w := w) (base := base) T
  exact fn_ok finR_ok (N := N_init_Board) (ps := ps_init_Board) (k := 2) F sc_init_Board (fun cdv A outer s H E hr tk hp => bi_cons (si_drop (ei_f h_check_name hr tk (by decide) (ai_cons (ei_var 1) (ai_nil)) (axn_cons (axn_nil)))) (bi_cons (si_drop (ei_f h_check_sides hr tk (by decide) (ai_cons (ei_var 2) (ai_cons (ei_var 3) (ai_nil))) (axn_cons (axn_cons (axn_nil))))) (bi_cons (si_drop (ei_f h_in_range hr tk (by decide) (ai_cons (ei_str) (ai_cons (ei_var 4) (ai_cons (ei_int) (ai_cons (ei_ki T.k_MOST_COST) (ai_nil))))) (axn_cons (axn_cons (axn_cons (axn_cons (axn_nil))))))) (bi_cons (si_if (ti_w (tw_or (ti_cmp op_lt os_lt (ei_var 5) (ei_int)) (tw_or (ti_cmp op_ge os_ge (ei_op op_mulD os_mul (ei_int) (ei_var 5)) (ei_var 2)) (tw_or1 (ti_cmp op_ge os_ge (ei_op op_mulD os_mul (ei_int) (ei_var 5)) (ei_var 3)))))) (bi_one (si_bad)) (bi_nil)) (bi_cons (si_drop (ei_f h_in_range hr tk (by decide) (ai_cons (ei_str) (ai_cons (ei_op op_mulD os_mul (ei_op op_sub os_sub (ei_var 2) (ei_op op_mulD os_mul (ei_int) (ei_var 5))) (ei_op op_sub os_sub (ei_var 3) (ei_op op_mulD os_mul (ei_int) (ei_var 5)))) (ai_cons (ei_int) (ai_cons (ei_ki T.k_MOST_AREA) (ai_nil))))) (axn_cons (axn_cons (axn_cons (axn_cons (axn_nil))))))) (bi_cons (si_if (ti_cmp op_gt os_gt (ei_len T.g_len (ai_cons (ei_var 6) (ai_nil))) (ei_ki T.k_MOST_FAULTS)) (bi_one (si_bad)) (bi_nil)) (bi_cons (si_for (vs := [7, 8]) hp rfl (ii_any (ei_var 6)) (gi_tup 2 rfl (gsi_cons (gi_name 7 (sc_init_Board).nd) (gsi_cons (gi_name 8 (sc_init_Board).nd) (gsi_nil))) (len_cons (len_cons (len_nil)))) (bi_one (si_if (ti_not (ti_w (tw_and (ti_chain op_le os_le op_lt os_lt (ei_int) (ei_var 7) (ei_var 2)) (tw_and1 (ti_chain op_le os_le op_lt os_lt (ei_int) (ei_var 8) (ei_var 3)))))) (bi_one (si_bad)) (bi_nil)))) (bi_cons (si_fld 0 "name" T.pok (ei_var 0) (ei_var 1)) (bi_cons (si_fld 0 "length" T.pok (ei_var 0) (ei_var 2)) (bi_cons (si_fld 0 "width" T.pok (ei_var 0) (ei_var 3)) (bi_cons (si_fld 0 "cost" T.pok (ei_var 0) (ei_var 4)) (bi_cons (si_fld 0 "trim" T.pok (ei_var 0) (ei_var 5)) (bi_one (si_fld 0 "faults" T.pok (ei_var 0) (ei_f h_ascending_cells hr tk (by decide) (ai_cons (ei_var 6) (ai_nil)) (axn_cons (axn_nil)))))))))))))))))
theorem ok_init_Board_k0 (T : Txt K mg) : HasM P w K mg base 3 "Board" ps_init_Board 4 [] (fun xs ys => perm [0, 1, 2, 3, 4, 5, 6] (xs ++ ([.int 0, .tup []] ++ ys))) F_init_Board := by
  obtain ⟨fd, F⟩ := T.d_init_Board
  exact ⟨⟨_, fd, T.m_Board, fn_init_Board T F, kb3 F 5 [] [("trim", .int 0), ("faults", .ref (kwdAt ("Board", some "__init__") "faults" K))] [0, 1, 2, 3, 4, 5, 6] [.int 0, .tup []] (List.cons_ne_nil _ _) (by intro q hq; simp only [List.mem_cons, List.not_mem_nil, or_false, or_self] at hq ⊢; first | exact hq.elim | (rcases hq with rfl | rfl | rfl <;> simp) | (rcases hq with rfl | rfl <;> simp) | (subst hq; simp)) (.cons (.int _) (.cons (emptyB_ok T.e_init_Board_faults) (.nil))) (fun _ _ _ _ _ _ us mv ws h1 h2 h3 => match us, mv, ws, h1, h2, h3 with | [_, _, _, _, _], [_, _], [], _, _, _ => ⟨_, _, _, _, _, _, rfl, rfl, ⟨_, _, _, _, _, _, rfl, rfl, rfl⟩⟩)⟩, T.g_Board⟩
theorem fn_check_many (T : Txt K mg) {f : Addr} {fd : FuncData} (F : FunD K "check_many" "check_many" (defArgs s_check_many) (defBody s_check_many) (defScope s_check_many) [] [] f fd) : FnOk P w K mg base (L2.CX P w) 1 f fd ps_check_many (spI K F_check_many ps_check_many.length) := by
  exact fn_ok finR_ok (N := N_check_many) (ps := ps_check_many) (k := 0) F sc_check_many (fun cdv A outer s H E hr tk hp => bi_one (si_if (ti_not (ti_chain op_le os_le op_le os_le (ei_var 2) (ei_len T.g_len (ai_cons (ei_var 1) (ai_nil))) (ei_var 3))) (bi_one (si_bad)) (bi_nil)))
theorem ok_check_many (T : Txt K mg) : Has P w K mg base 1 "check_many" (He.ga K "check_many") ps_check_many F_check_many := by
  obtain ⟨fd, F⟩ := T.d_check_many
  exact ⟨⟨fd, fn_check_many T F, F.bindsN (fun _ _ _ _ _ _ us hl => match us, hl with | [_, _, _, _], _ => rfl)⟩, T.g_check_many, F.kp⟩
theorem fn_check_names (T : Txt K mg) {f : Addr} {fd : FuncData} (F : FunD K "check_names" "check_names" (defArgs s_check_names) (defBody s_check_names) (defScope s_check_names) [] [] f fd) : FnOk P w K mg base (L2.CX P w) 1 f fd ps_check_names (spI K F_check_names ps_check_names.length) := by
  exact fn_ok finR_ok (N := N_check_names) (ps := ps_check_names) (k := 0) F sc_check_names (fun cdv A outer s H E hr tk hp => bi_cons (si_setLc 1 (own := [("one", 4)]) rfl (sc_check_names).nd (ii_any (ei_var 0)) (blkOk_by (N := N_check_names) (sc := defScope s_check_names) (by decide +kernel)) (fun _ _ _ _ _ => gi_name 4 (sc_check_names).nd) (fun _ _ _ _ _ => tsi_nil) (fun _ _ _ _ _ => ei_fld T.pok (ei_var 4)) (sw_true rfl rfl rfl (by decide +kernel))) (bi_one (si_for (vs := [2, 3]) hp rfl (ii_enum rfl T.g_enumerate (ei_var 1)) (gi_tup 2 rfl (gsi_cons (gi_name 2 (sc_check_names).nd) (gsi_cons (gi_name 3 (sc_check_names).nd) (gsi_nil))) (len_cons (len_cons (len_nil)))) (bi_one (si_if (ti_cmp (op_in2 hr.units) os_in (ei_var 3) (ei_sl (ei_var 1) (oi_none) (oi_some (ei_var 2)))) (bi_one (si_bad)) (bi_nil))))))
theorem ok_check_names (T : Txt K mg) : Has P w K mg base 1 "check_names" (He.ga K "check_names") ps_check_names F_check_names := by
  obtain ⟨fd, F⟩ := T.d_check_names
  exact ⟨⟨fd, fn_check_names T F, F.bindsN (fun _ _ _ _ _ _ us hl => match us, hl with | [_], _ => rfl)⟩, T.g_check_names, F.kp⟩
theorem fn_check_days (T : Txt K mg) {f : Addr} {fd : FuncData} (F : FunD K "check_days" "check_days" (defArgs s_check_days) (defBody s_check_days) (defScope s_check_days) [] [] f fd) : FnOk P w K mg base (L2.CX P w) 1 f fd ps_check_days (spI K F_check_days ps_check_days.length) := by
  exact fn_ok finR_ok (N := N_check_days) (ps := ps_check_days) (k := 0) F sc_check_days (fun cdv A outer s H E hr tk hp => bi_one (si_for (vs := [3]) hp rfl (ii_any (ei_var 0)) (gi_name 3 (sc_check_days).nd) (bi_cons (si_if (ti_cmp (op_ne2 hr.units) os_ne (ei_len T.g_len (ai_cons (ei_fld T.pok (ei_var 3)) (ai_nil))) (ei_len T.g_len (ai_cons (ei_var 1) (ai_nil)))) (bi_one (si_bad)) (bi_nil)) (bi_one (si_if (ti_cmp (op_ne2 hr.units) os_ne (ei_len T.g_len (ai_cons (ei_fld T.pok (ei_var 3)) (ai_nil))) (ei_len T.g_len (ai_cons (ei_var 2) (ai_nil)))) (bi_one (si_bad)) (bi_nil))))))
theorem ok_check_days (T : Txt K mg) : Has P w K mg base 1 "check_days" (He.ga K "check_days") ps_check_days F_check_days := by
  obtain ⟨fd, F⟩ := T.d_check_days
  exact ⟨⟨fd, fn_check_days T F, F.bindsN (fun _ _ _ _ _ _ us hl => match us, hl with | [_, _, _], _ => rfl)⟩, T.g_check_days, F.kp⟩
theorem fn_count_lots (T : Txt K mg) {f : Addr} {fd : FuncData} (F : FunD K "count_lots" "count_lots" (defArgs s_count_lots) (defBody s_count_lots) (defScope s_count_lots) [] [] f fd) : FnOk P w K mg base (L2.CX P w) 1 f fd ps_count_lots (spI K F_count_lots ps_count_lots.length) := by
  exact fn_ok finR_ok (N := N_count_lots) (ps := ps_count_lots) (k := 0) F sc_count_lots (fun cdv A outer s H E hr tk hp => bi_cons (si_set 1 (sc_count_lots).nd (ei_int)) (bi_cons (si_for (vs := [2]) hp rfl (ii_any (ei_var 0)) (gi_name 2 (sc_count_lots).nd) (bi_one (si_for (vs := [3]) hp rfl (ii_any (ei_fld T.pok (ei_var 2))) (gi_name 3 (sc_count_lots).nd) (bi_one (si_set 1 (sc_count_lots).nd (ei_op op_mulD os_mul (ei_var 1) (ei_op op_addD os_add (ei_ix (ei_var 3) (ei_int)) (ei_int)))))))) (bi_one (si_ret (ei_var 1)))))
theorem ok_count_lots (T : Txt K mg) : Has P w K mg base 1 "count_lots" (He.ga K "count_lots") ps_count_lots F_count_lots := by
  obtain ⟨fd, F⟩ := T.d_count_lots
  exact ⟨⟨fd, fn_count_lots T F, F.bindsN (fun _ _ _ _ _ _ us hl => match us, hl with | [_], _ => rfl)⟩, T.g_count_lots, F.kp⟩
theorem fn_init_Sheet (T : Txt K mg) {f : Addr} {fd : FuncData} (F : FunD K "__init__" "Sheet.__init__" (defArgs s_init_Sheet) (defBody s_init_Sheet) (defScope s_init_Sheet) [] [("rests", .ref (kwdAt ("Sheet", some "__init__") "rests" K)), ("kerf", .int 0), ("stages", .non), ("cut_cost", .int 0)] f fd) : FnOk P w K mg base (L2.CX P w) 2 f fd ps_init_Sheet (spI K F_init_Sheet ps_init_Sheet.length) := by
  have h_check_many := ok_check_many (P := P) (w := w) (base := base) T
  have h_check_names := ok_check_names (P := P) (w := w) (base := base) T
  have h_check_days := ok_check_days (P := P) (w := w) (base := base) T
  have h_in_range := ok_in_range (P := P) (w := w) (base := base) T
  have h_count_lots := ok_count_lots (P := P) (w := w) (base := base) T
  exact fn_ok finR_ok (N := N_init_Sheet) (ps := ps_init_Sheet) (k := 1) F sc_init_Sheet (fun cdv A outer s H E hr tk hp => bi_cons (si_drop (ei_f h_check_many hr tk (by decide) (ai_cons (ei_str) (ai_cons (ei_var 1) (ai_cons (ei_int) (ai_cons (ei_ki T.k_MOST_KINDS) (ai_nil))))) (axn_cons (axn_cons (axn_cons (axn_cons (axn_nil))))))) (bi_cons (si_drop (ei_f h_check_many hr tk (by decide) (ai_cons (ei_str) (ai_cons (ei_var 2) (ai_cons (ei_int) (ai_cons (ei_ki T.k_MOST_BOARD_SORTS) (ai_nil))))) (axn_cons (axn_cons (axn_cons (axn_cons (axn_nil))))))) (bi_cons (si_drop (ei_f h_check_many hr tk (by decide) (ai_cons (ei_str) (ai_cons (ei_var 3) (ai_cons (ei_int) (ai_cons (ei_ki T.k_MOST_DAYS) (ai_nil))))) (axn_cons (axn_cons (axn_cons (axn_cons (axn_nil))))))) (bi_cons (si_drop (ei_f h_check_many hr tk (by decide) (ai_cons (ei_str) (ai_cons (ei_var 4) (ai_cons (ei_int) (ai_cons (ei_ki T.k_MOST_RESTS) (ai_nil))))) (axn_cons (axn_cons (axn_cons (axn_cons (axn_nil))))))) (bi_cons (si_drop (ei_f h_check_names hr tk (by decide) (ai_cons (ei_lst (ai_star (ei_var 1) (ai_star (ei_var 2) (ai_star (ei_var 4) (ai_nil))))) (ai_nil)) (axn_cons (axn_nil)))) (bi_cons (si_drop (ei_f h_check_days hr tk (by decide) (ai_cons (ei_var 3) (ai_cons (ei_var 1) (ai_cons (ei_var 2) (ai_nil)))) (axn_cons (axn_cons (axn_cons (axn_nil)))))) (bi_cons (si_drop (ei_f h_in_range hr tk (by decide) (ai_cons (ei_str) (ai_cons (ei_var 5) (ai_cons (ei_int) (ai_cons (ei_ki T.k_MOST_KERF) (ai_nil))))) (axn_cons (axn_cons (axn_cons (axn_cons (axn_nil))))))) (bi_cons (si_if (ti_cmp op_notN os_notN (ei_var 6) (ei_non)) (bi_one (si_drop (ei_f h_in_range hr tk (by decide) (ai_cons (ei_str) (ai_cons (ei_var 6) (ai_cons (ei_int) (ai_cons (ei_ki T.k_MOST_STAGES) (ai_nil))))) (axn_cons (axn_cons (axn_cons (axn_cons (axn_nil)))))))) (bi_nil)) (bi_cons (si_drop (ei_f h_in_range hr tk (by decide) (ai_cons (ei_str) (ai_cons (ei_var 7) (ai_cons (ei_int) (ai_cons (ei_ki T.k_MOST_COST) (ai_nil))))) (axn_cons (axn_cons (axn_cons (axn_cons (axn_nil))))))) (bi_cons (si_if (ti_cmp op_gt os_gt (ei_f h_count_lots hr tk (by decide) (ai_cons (ei_var 3) (ai_nil)) (axn_cons (axn_nil))) (ei_fld T.pok (ei_var 0))) (bi_one (si_bad)) (bi_nil)) (bi_cons (si_if (ti_cmp op_gt os_gt (ei_sum rfl T.g_sum (ai_cons (ei_lc (own := [("day", 8)]) rfl (sc_init_Sheet).nd (ii_any (ei_var 3)) (blkOk_by (N := N_init_Sheet) (sc := defScope s_init_Sheet) (by decide +kernel)) (fun _ _ _ _ _ => gi_name 8 (sc_init_Sheet).nd) (fun _ _ _ _ _ => tsi_nil) (fun _ _ _ _ _ => ei_sum rfl T.g_sum (ai_cons (ei_fld T.pok (ei_var 8)) (ai_nil)))) (ai_nil))) (ei_fld T.pok (ei_var 0))) (bi_one (si_bad)) (bi_nil)) (bi_cons (si_fld 0 "kinds" T.pok (ei_var 0) (ei_tupc T.g_tuple (ai_cons (ei_var 1) (ai_nil)))) (bi_cons (si_fld 0 "boards" T.pok (ei_var 0) (ei_tupc T.g_tuple (ai_cons (ei_var 2) (ai_nil)))) (bi_cons (si_fld 0 "days" T.pok (ei_var 0) (ei_tupc T.g_tuple (ai_cons (ei_var 3) (ai_nil)))) (bi_cons (si_fld 0 "rests" T.pok (ei_var 0) (ei_tupc T.g_tuple (ai_cons (ei_var 4) (ai_nil)))) (bi_cons (si_fld 0 "kerf" T.pok (ei_var 0) (ei_var 5)) (bi_cons (si_fld 0 "stages" T.pok (ei_var 0) (ei_var 6)) (bi_one (si_fld 0 "cut_cost" T.pok (ei_var 0) (ei_var 7))))))))))))))))))))
theorem ok_init_Sheet_k0 (T : Txt K mg) : HasM P w K mg base 2 "Sheet" ps_init_Sheet 3 ["rests", "kerf", "stages"] (fun xs ys => perm [0, 1, 2, 3, 5, 6, 7, 4] (xs ++ ([.int 0] ++ ys))) F_init_Sheet := by
  obtain ⟨fd, F⟩ := T.d_init_Sheet
  exact ⟨⟨_, fd, T.m_Sheet, fn_init_Sheet T F, kb3 F 4 ["rests", "kerf", "stages"] [("cut_cost", .int 0)] [0, 1, 2, 3, 5, 6, 7, 4] [.int 0] (List.cons_ne_nil _ _) (by intro q hq; simp only [List.mem_cons, List.not_mem_nil, or_false, or_self] at hq ⊢; first | exact hq.elim | (rcases hq with rfl | rfl | rfl <;> simp) | (rcases hq with rfl | rfl <;> simp) | (subst hq; simp)) (.cons (.int _) (.nil)) (fun _ _ _ _ _ _ us mv ws h1 h2 h3 => match us, mv, ws, h1, h2, h3 with | [_, _, _, _], [_], [_, _, _], _, _, _ => ⟨_, _, _, _, _, _, rfl, rfl, rfl⟩)⟩, T.g_Sheet⟩
theorem fn__law_built (T : Txt K mg) {f : Addr} {fd : FuncData} (F : FunD K "_law_built" "_law_built" (defArgs s__law_built) (defBody s__law_built) (defScope s__law_built) [] [] f fd) : FnOk P w K mg base (L2.CX P w) 5 f fd ps__law_built (spI K F__law_built ps__law_built.length) := by
  have h_init_Kind_k0 := ok_init_Kind_k0 (P := P) (w := w) (base := base) T
  have h_init_Rest_k0 := ok_init_Rest_k0 (P := P) (w := w) (base := base) T
  have h_init_Day_k0 := ok_init_Day_k0 (P := P) (w := w) (base := base) T
  have h_init_Board_k0 := ok_init_Board_k0 (P := P) (w := w) (base := base) T
  have h_init_Sheet_k0 := ok_init_Sheet_k0 (P := P) (w := w) (base := base) T
  exact fn_ok finR_ok (N := N__law_built) (ps := ps__law_built) (k := 4) F sc__law_built (fun cdv A outer s H E hr tk hp => bi_cons (si_setLc 1 (own := [("a", 6)]) rfl (sc__law_built).nd (ii_any (ei_ix (ei_var 0) (ei_int))) (blkOk_by (N := N__law_built) (sc := defScope s__law_built) (by decide +kernel)) (fun _ _ _ _ _ => gi_name 6 (sc__law_built).nd) (fun _ _ _ _ _ => tsi_nil) (fun _ _ _ _ _ => ei_mk (h_init_Kind_k0) hr takes_W0 (by decide) (fun _ _ _ => rfl) (fun xs ys h1 h2 => match xs, ys, h1, h2 with | [_, _, _], [_], _, _ => rfl) (ai_cons (ei_ix (ei_var 6) (ei_int)) (ai_cons (ei_ix (ei_var 6) (ei_int)) (ai_cons (ei_ix (ei_var 6) (ei_int)) (ai_nil)))) (ki_cons (ei_ix (ei_var 6) (ei_int)) (ki_nil)) (axn_cons (axn_cons (axn_cons (axn_nil)))) (axn_cons (axn_nil))) (sw_true rfl rfl rfl (by decide +kernel))) (bi_cons (si_setLc 2 (own := [("a", 6)]) rfl (sc__law_built).nd (ii_any (ei_ix (ei_var 0) (ei_int))) (blkOk_by (N := N__law_built) (sc := defScope s__law_built) (by decide +kernel)) (fun _ _ _ _ _ => gi_name 6 (sc__law_built).nd) (fun _ _ _ _ _ => tsi_nil) (fun _ _ _ _ _ => ei_mk (h_init_Rest_k0) hr takes_W0 (by decide) (fun _ _ _ => rfl) (fun xs ys h1 h2 => match xs, ys, h1, h2 with | [_, _, _], [], _, _ => rfl) (ai_cons (ei_ix (ei_var 6) (ei_int)) (ai_cons (ei_ix (ei_var 6) (ei_int)) (ai_cons (ei_ix (ei_var 6) (ei_int)) (ai_nil)))) (ki_nil) (axn_cons (axn_cons (axn_cons (axn_nil)))) (axn_nil)) (sw_true rfl rfl rfl (by decide +kernel))) (bi_cons (si_set 3 (sc__law_built).nd (ei_lstL (ai_nil))) (bi_cons (si_for (vs := [4]) hp rfl (ii_rng1 rfl T.g_range (ai_cons (ei_ix (ei_var 0) (ei_int)) (ai_nil))) (gi_name 4 (sc__law_built).nd) (bi_one (si_app 3 (ei_var 3) (ei_mk (h_init_Day_k0) hr tk (by decide) (fun _ _ _ => rfl) (fun xs ys h1 h2 => match xs, ys, h1, h2 with | [_, _], [], _, _ => rfl) (ai_cons (ei_op op_mulD os_mul (ei_lst (ai_cons (ei_tup (ai_cons (ei_int) (ai_cons (ei_int) (ai_nil)))) (ai_nil))) (ei_len T.g_len (ai_cons (ei_ix (ei_var 0) (ei_int)) (ai_nil)))) (ai_cons (ei_tup (ai_cons (ei_int) (ai_nil))) (ai_nil))) (ki_nil) (axn_cons (axn_cons (axn_nil))) (axn_nil))))) (bi_frz 3 (bi_cons (si_set 5 (sc__law_built).nd (ei_mk (h_init_Board_k0) hr tk (by decide) (fun _ _ _ => rfl) (fun xs ys h1 h2 => match xs, ys, h1, h2 with | [_, _, _, _], [], _, _ => rfl) (ai_cons (ei_str) (ai_cons (ei_int) (ai_cons (ei_int) (ai_cons (ei_int) (ai_nil))))) (ki_nil) (axn_cons (axn_cons (axn_cons (axn_cons (axn_nil))))) (axn_nil))) (bi_one (si_ret (ei_mk (h_init_Sheet_k0) hr tk (by decide) (fun _ _ _ => rfl) (fun xs ys h1 h2 => match xs, ys, h1, h2 with | [_, _, _], [_, _, _], _, _ => rfl) (ai_cons (ei_var 1) (ai_cons (ei_lst (ai_cons (ei_var 5) (ai_nil))) (ai_cons (ei_var 3) (ai_nil)))) (ki_cons (ei_var 2) (ki_cons (ei_ix (ei_var 0) (ei_int)) (ki_cons (ei_ix (ei_var 0) (ei_int)) (ki_nil)))) (axn_cons (axn_cons (axn_cons (axn_nil)))) (axn_cons (axn_cons (axn_cons (axn_nil)))))))))))))
theorem ok__law_built (T : Txt K mg) : Has P w K mg base 5 "_law_built" (He.ga K "_law_built") ps__law_built F__law_built := by
  obtain ⟨fd, F⟩ := T.d__law_built
  exact ⟨⟨fd, fn__law_built T F, F.bindsN (fun _ _ _ _ _ _ us hl => match us, hl with | [_], _ => rfl)⟩, T.g__law_built, F.kp⟩
theorem fn__law_ascending (T : Txt K mg) {f : Addr} {fd : FuncData} (F : FunD K "_law_ascending" "_law_ascending" (defArgs s__law_ascending) (defBody s__law_ascending) (defScope s__law_ascending) [] [] f fd) : FnOk P w K mg base (L2.CX P w) 1 f fd ps__law_ascending (spI K F__law_ascending ps__law_ascending.length) := by
  exact fn_ok finR_ok (N := N__law_ascending) (ps := ps__law_ascending) (k := 0) F sc__law_ascending (fun cdv A outer s H E hr tk hp => bi_cons (si_set 1 (sc__law_ascending).nd (ei_lstL (ai_nil))) (bi_cons (si_for (vs := [2]) hp rfl (ii_any (ei_sorted T.g_sorted (ai_cons (ei_lc (own := [("cell", 3)]) rfl (sc__law_ascending).nd (ii_any (ei_var 0)) (blkOk_by (N := N__law_ascending) (sc := defScope s__law_ascending) (by decide +kernel)) (fun _ _ _ _ _ => gi_name 3 (sc__law_ascending).nd) (fun _ _ _ _ _ => tsi_nil) (fun _ _ _ _ _ => ei_op op_addD os_add (ei_op op_mulD os_mul (ei_ix (ei_var 3) (ei_int)) (ei_int)) (ei_ix (ei_var 3) (ei_int)))) (ai_nil)))) (gi_name 2 (sc__law_ascending).nd) (bi_cons (si_set 3 (sc__law_ascending).nd (ei_tup (ai_cons (ei_op op_fdivW os_div (ei_var 2) (ei_int)) (ai_cons (ei_op op_mod os_mod (ei_intc T.g_int (ai_cons (ei_var 2) (ai_nil))) (ei_int)) (ai_nil))))) (bi_one (si_if (ti_w (tw_or (ti_cmp (op_eq2 hr.units) os_eq (ei_len T.g_len (ai_cons (ei_var 1) (ai_nil))) (ei_int)) (tw_or1 (ti_cmp (op_ne2 hr.units) os_ne (ei_ix (ei_var 1) (ei_un un_neg us_neg (ei_int))) (ei_var 3))))) (bi_one (si_app 1 (ei_var 1) (ei_var 3))) (bi_nil))))) (bi_frz 1 (bi_one (si_ret (ei_tupc T.g_tuple (ai_cons (ei_var 1) (ai_nil))))))))
theorem ok__law_ascending (T : Txt K mg) : Has P w K mg base 1 "_law_ascending" (He.ga K "_law_ascending") ps__law_ascending F__law_ascending := by
  obtain ⟨fd, F⟩ := T.d__law_ascending
  exact ⟨⟨fd, fn__law_ascending T F, F.bindsN (fun _ _ _ _ _ _ us hl => match us, hl with | [_], _ => rfl)⟩, T.g__law_ascending, F.kp⟩
theorem fn__law_part (T : Txt K mg) {f : Addr} {fd : FuncData} (F : FunD K "_law_part" "_law_part" (defArgs s__law_part) (defBody s__law_part) (defScope s__law_part) [] [] f fd) : FnOk P w K mg base (L2.CX P w) 2 f fd ps__law_part (spI K F__law_part ps__law_part.length) := by
  have h__law_draw := ok__law_draw (P := P) (w := w) (base := base) T
  have h__law_ascending := ok__law_ascending (P := P) (w := w) (base := base) T
  exact fn_ok finR_ok (N := N__law_part) (ps := ps__law_part) (k := 1) F sc__law_part (fun cdv A outer s H E hr tk hp => bi_cons (si_set 3 (sc__law_part).nd (ei_tup (ai_cons (ei_un un_neg us_neg (ei_int)) (ai_cons (ei_int) (ai_nil))))) (bi_cons (si_if (ti_cmp op_notN os_notN (ei_var 2) (ei_non)) (bi_cons (si_set 9 (sc__law_part).nd (ei_ix (ei_lst (ai_cons (ei_int) (ai_cons (ei_var 2) (ai_cons (ei_f h__law_draw hr tk (by decide) (ai_cons (ei_var 0) (ai_cons (ei_op op_addD os_add (ei_var 2) (ei_int)) (ai_nil))) (axn_cons (axn_cons (axn_nil)))) (ai_nil))))) (ei_f h__law_draw hr tk (by decide) (ai_cons (ei_var 0) (ai_cons (ei_int) (ai_nil))) (axn_cons (axn_cons (axn_nil)))))) (bi_cons (si_set 3 (sc__law_part).nd (ei_tup (ai_cons (ei_var 9) (ai_cons (ei_int) (ai_nil))))) (bi_one (si_if (ti_cmp op_lt os_lt (ei_var 9) (ei_var 2)) (bi_one (si_set 3 (sc__law_part).nd (ei_tup (ai_cons (ei_var 9) (ai_cons (ei_op op_addD os_add (ei_int) (ei_f h__law_draw hr tk (by decide) (ai_cons (ei_var 0) (ai_cons (ei_int) (ai_nil))) (axn_cons (axn_cons (axn_nil))))) (ai_nil)))))) (bi_nil))))) (bi_nil)) (bi_cons (si_set 4 (sc__law_part).nd (ei_f h__law_draw hr tk (by decide) (ai_cons (ei_var 0) (ai_cons (ei_int) (ai_nil))) (axn_cons (axn_cons (axn_nil))))) (bi_cons (si_set 5 (sc__law_part).nd (ei_lst (ai_cons (ei_op op_addD os_add (ei_int) (ei_f h__law_draw hr tk (by decide) (ai_cons (ei_var 0) (ai_cons (ei_int) (ai_nil))) (axn_cons (axn_cons (axn_nil))))) (ai_cons (ei_op op_addD os_add (ei_int) (ei_f h__law_draw hr tk (by decide) (ai_cons (ei_var 0) (ai_cons (ei_int) (ai_nil))) (axn_cons (axn_cons (axn_nil))))) (ai_nil))))) (bi_cons (si_if (ti_cmp op_gt os_gt (ei_var 4) (ei_int)) (bi_one (si_set 5 (sc__law_part).nd (ei_ix (ei_lst (ai_cons (ei_lst (ai_cons (ei_int) (ai_cons (ei_int) (ai_nil)))) (ai_cons (ei_lst (ai_cons (ei_int) (ai_cons (ei_int) (ai_nil)))) (ai_nil)))) (ei_op op_sub os_sub (ei_var 4) (ei_int))))) (bi_nil)) (bi_cons (si_set 6 (sc__law_part).nd (ei_lstL (ai_nil))) (bi_cons (si_if (ti_cmp (op_eq2 hr.units) os_eq (ei_f h__law_draw hr tk (by decide) (ai_cons (ei_var 0) (ai_cons (ei_int) (ai_nil))) (axn_cons (axn_cons (axn_nil)))) (ei_int)) (bi_one (si_for (vs := [10]) hp rfl (ii_rng1 rfl T.g_range (ai_cons (ei_op op_addD os_add (ei_int) (ei_f h__law_draw hr tk (by decide) (ai_cons (ei_var 0) (ai_cons (ei_int) (ai_nil))) (axn_cons (axn_cons (axn_nil))))) (ai_nil))) (gi_name 10 (sc__law_part).nd) (bi_one (si_app 6 (ei_var 6) (ei_tup (ai_cons (ei_f h__law_draw hr tk (by decide) (ai_cons (ei_var 0) (ai_cons (ei_ix (ei_var 5) (ei_int)) (ai_nil))) (axn_cons (axn_cons (axn_nil)))) (ai_cons (ei_f h__law_draw hr tk (by decide) (ai_cons (ei_var 0) (ai_cons (ei_ix (ei_var 5) (ei_int)) (ai_nil))) (axn_cons (axn_cons (axn_nil)))) (ai_nil)))))))) (bi_nil)) (bi_frz 6 (bi_cons (si_set 7 (sc__law_part).nd (ei_op op_addD os_add (ei_tup (ai_cons (ei_f h__law_draw hr tk (by decide) (ai_cons (ei_var 0) (ai_cons (ei_var 1) (ai_nil))) (axn_cons (axn_cons (axn_nil)))) (ai_cons (ei_ix (ei_var 5) (ei_int)) (ai_cons (ei_ix (ei_var 5) (ei_int)) (ai_nil))))) (ei_var 3))) (bi_cons (si_for (vs := [8]) hp rfl (ii_any (ei_f h__law_ascending hr tk (by decide) (ai_cons (ei_var 6) (ai_nil)) (axn_cons (axn_nil)))) (gi_name 8 (sc__law_part).nd) (bi_one (si_set 7 (sc__law_part).nd (ei_op op_addD os_add (ei_var 7) (ei_var 8))))) (bi_one (si_ret (ei_var 7)))))))))))))
theorem ok__law_part (T : Txt K mg) : Has P w K mg base 2 "_law_part" (He.ga K "_law_part") ps__law_part F__law_part := by
  obtain ⟨fd, F⟩ := T.d__law_part
  exact ⟨⟨fd, fn__law_part T F, F.bindsN (fun _ _ _ _ _ _ us hl => match us, hl with | [_, _, _], _ => rfl)⟩, T.g__law_part, F.kp⟩
theorem fn__law_list (T : Txt K mg) {f : Addr} {fd : FuncData} (F : FunD K "_law_list" "_law_list" (defArgs s__law_list) (defBody s__law_list) (defScope s__law_list) [] [] f fd) : FnOk P w K mg base (L2.CX P w) 1 f fd ps__law_list (spI K F__law_list ps__law_list.length) := by
  exact fn_ok finR_ok (N := N__law_list) (ps := ps__law_list) (k := 0) F sc__law_list (fun cdv A outer s H E hr tk hp => bi_cons (si_set 2 (sc__law_list).nd (ei_lstL (ai_nil))) (bi_cons (si_for (vs := [3]) hp rfl (ii_rng1 rfl T.g_range (ai_cons (ei_len T.g_len (ai_cons (ei_ix (ei_var 0) (ei_int)) (ai_nil))) (ai_nil))) (gi_name 3 (sc__law_list).nd) (bi_cons (si_set 5 (sc__law_list).nd (ei_ix (ei_ix (ei_var 0) (ei_int)) (ei_var 3))) (bi_cons (si_set 6 (sc__law_list).nd (ei_and (ei_cmp op_le os_le (ei_ix (ei_var 5) (ei_int)) (ei_ix (ei_var 1) (ei_int))) (ei_and1 (ei_cmp op_le os_le (ei_ix (ei_var 5) (ei_int)) (ei_ix (ei_var 1) (ei_int)))))) (bi_cons (si_if (ti_w (tw_and (ti_val (ei_ix (ei_var 5) (ei_int))) (tw_and (ti_cmp op_le os_le (ei_ix (ei_var 5) (ei_int)) (ei_ix (ei_var 1) (ei_int))) (tw_and1 (ti_cmp op_le os_le (ei_ix (ei_var 5) (ei_int)) (ei_ix (ei_var 1) (ei_int))))))) (bi_one (si_set 6 (sc__law_list).nd (ei_bl))) (bi_nil)) (bi_one (si_if (ti_w (tw_and (ti_val (ei_var 6)) (tw_and1 (ti_cmp (op_eq2 hr.units) os_eq (ei_len T.g_len (ai_cons (ei_var 1) (ai_nil))) (ei_int))))) (bi_one (si_app 2 (ei_var 2) (ei_tup (ai_cons (ei_str) (ai_cons (ei_var 1) (ai_cons (ei_var 3) (ai_nil))))))) (bi_nil))))))) (bi_cons (si_for (vs := [3]) hp rfl (ii_rng1 rfl T.g_range (ai_cons (ei_len T.g_len (ai_cons (ei_ix (ei_var 0) (ei_int)) (ai_nil))) (ai_nil))) (gi_name 3 (sc__law_list).nd) (bi_cons (si_set 5 (sc__law_list).nd (ei_ix (ei_ix (ei_var 0) (ei_int)) (ei_var 3))) (bi_cons (si_set 6 (sc__law_list).nd (ei_and (ei_cmp op_le os_le (ei_ix (ei_var 5) (ei_int)) (ei_ix (ei_var 1) (ei_int))) (ei_and1 (ei_cmp op_le os_le (ei_ix (ei_var 5) (ei_int)) (ei_ix (ei_var 1) (ei_int)))))) (bi_one (si_if (ti_w (tw_and (ti_val (ei_var 6)) (tw_and (ti_cmp (op_eq2 hr.units) os_eq (ei_len T.g_len (ai_cons (ei_var 1) (ai_nil))) (ei_int)) (tw_and1 (ti_cmp op_lt os_lt (ei_op op_addD os_add (ei_ix (ei_var 1) (ei_int)) (ei_int)) (ei_ix (ei_var 0) (ei_int))))))) (bi_one (si_app 2 (ei_var 2) (ei_tup (ai_cons (ei_str) (ai_cons (ei_var 1) (ai_cons (ei_var 3) (ai_nil))))))) (bi_nil)))))) (bi_cons (si_for (vs := [4]) hp rfl (ii_any (ei_tup (ai_cons (ei_int) (ai_cons (ei_int) (ai_nil))))) (gi_name 4 (sc__law_list).nd) (bi_one (si_if (ti_w (tw_or (ti_cmp (op_ne2 hr.units) os_ne (ei_ix (ei_var 1) (ei_int)) (ei_int)) (tw_or1 (ti_cmp (op_eq2 hr.units) os_eq (ei_ix (ei_var 1) (ei_int)) (ei_var 4))))) (bi_one (si_for (vs := [7]) hp rfl (ii_rng2 rfl T.g_range (ai_cons (ei_int) (ai_cons (ei_ix (ei_var 1) (ei_var 4)) (ai_nil)))) (gi_name 7 (sc__law_list).nd) (bi_one (si_app 2 (ei_var 2) (ei_tup (ai_cons (ei_str) (ai_cons (ei_var 1) (ai_cons (ei_var 4) (ai_cons (ei_var 7) (ai_nil)))))))))) (bi_nil)))) (bi_one (si_ret (ei_var 2)))))))
theorem ok__law_list (T : Txt K mg) : Has P w K mg base 1 "_law_list" (He.ga K "_law_list") ps__law_list F__law_list := by
  obtain ⟨fd, F⟩ := T.d__law_list
  exact ⟨⟨fd, fn__law_list T F, F.bindsN (fun _ _ _ _ _ _ us hl => match us, hl with | [_, _], _ => rfl)⟩, T.g__law_list, F.kp⟩
theorem fn_thing_at (T : Txt K mg) {f : Addr} {fd : FuncData} (F : FunD K "thing_at" "thing_at" (defArgs s_thing_at) (defBody s_thing_at) (defScope s_thing_at) [] [] f fd) : FnOk P w K mg base (L2.CX P w) 1 f fd ps_thing_at (spI K F_thing_at ps_thing_at.length) := by
  exact fn_ok finR_ok (N := N_thing_at) (ps := ps_thing_at) (k := 0) F sc_thing_at (fun cdv A outer s H E hr tk hp => bi_cons (si_if (ti_not (ti_chain op_le os_le op_lt os_lt (ei_int) (ei_var 2) (ei_len T.g_len (ai_cons (ei_var 0) (ai_nil))))) (bi_one (si_bad)) (bi_nil)) (bi_one (si_ret (ei_ix (ei_var 0) (ei_var 2)))))
theorem ok_thing_at (T : Txt K mg) : Has P w K mg base 1 "thing_at" (He.ga K "thing_at") ps_thing_at F_thing_at := by
  obtain ⟨fd, F⟩ := T.d_thing_at
  exact ⟨⟨fd, fn_thing_at T F, F.bindsN (fun _ _ _ _ _ _ us hl => match us, hl with | [_, _, _], _ => rfl)⟩, T.g_thing_at, F.kp⟩
theorem fn_kind_at (T : Txt K mg) {f : Addr} {fd : FuncData} (F : FunD K "kind_at" "kind_at" (defArgs s_kind_at) (defBody s_kind_at) (defScope s_kind_at) [] [] f fd) : FnOk P w K mg base (L2.CX P w) 2 f fd ps_kind_at (spI K F_kind_at ps_kind_at.length) := by
  have h_thing_at := ok_thing_at (P := P) (w := w) (base := base) T
  exact fn_ok finR_ok (N := N_kind_at) (ps := ps_kind_at) (k := 1) F sc_kind_at (fun cdv A outer s H E hr tk hp => bi_one (si_ret (ei_f h_thing_at hr tk (by decide) (ai_cons (ei_fld T.pok (ei_var 0)) (ai_cons (ei_str) (ai_cons (ei_var 1) (ai_nil)))) (axn_cons (axn_cons (axn_cons (axn_nil)))))))
theorem ok_kind_at (T : Txt K mg) : Has P w K mg base 2 "kind_at" (He.ga K "kind_at") ps_kind_at F_kind_at := by
  obtain ⟨fd, F⟩ := T.d_kind_at
  exact ⟨⟨fd, fn_kind_at T F, F.bindsN (fun _ _ _ _ _ _ us hl => match us, hl with | [_, _], _ => rfl)⟩, T.g_kind_at, F.kp⟩
theorem fn_is_clean (T : Txt K mg) {f : Addr} {fd : FuncData} (F : FunD K "is_clean" "is_clean" (defArgs s_is_clean) (defBody s_is_clean) (defScope s_is_clean) [] [] f fd) : FnOk P w K mg base (L2.CX P w) 1 f fd ps_is_clean (spI K F_is_clean ps_is_clean.length) := by
  exact fn_ok finR_ok (N := N_is_clean) (ps := ps_is_clean) (k := 0) F sc_is_clean (fun cdv A outer s H E hr tk hp => bi_one (si_ret (ei_cmp (op_eq2 hr.units) os_eq (ei_len T.g_len (ai_cons (ei_var 0) (ai_nil))) (ei_ki T.k_FIRST_CELL))))
theorem ok_is_clean (T : Txt K mg) : Has P w K mg base 1 "is_clean" (He.ga K "is_clean") ps_is_clean F_is_clean := by
  obtain ⟨fd, F⟩ := T.d_is_clean
  exact ⟨⟨fd, fn_is_clean T F, F.bindsN (fun _ _ _ _ _ _ us hl => match us, hl with | [_], _ => rfl)⟩, T.g_is_clean, F.kp⟩
theorem fn_fits (T : Txt K mg) {f : Addr} {fd : FuncData} (F : FunD K "fits" "fits" (defArgs s_fits) (defBody s_fits) (defScope s_fits) [] [] f fd) : FnOk P w K mg base (L2.CX P w) 3 f fd ps_fits (spI K F_fits ps_fits.length) := by
  have h_kind_at := ok_kind_at (P := P) (w := w) (base := base) T
  have h_is_clean := ok_is_clean (P := P) (w := w) (base := base) T
  exact fn_ok finR_ok (N := N_fits) (ps := ps_fits) (k := 2) F sc_fits (fun cdv A outer s H E hr tk hp => bi_cons (si_set 3 (sc_fits).nd (ei_f h_kind_at hr tk (by decide) (ai_cons (ei_var 0) (ai_cons (ei_var 2) (ai_nil))) (axn_cons (axn_cons (axn_nil))))) (bi_cons (si_if (ti_not (ti_val (ei_f h_is_clean hr tk (by decide) (ai_cons (ei_var 1) (ai_nil)) (axn_cons (axn_nil))))) (bi_one (si_ret (ei_bl))) (bi_nil)) (bi_cons (si_if (ti_w (tw_and (ti_cmp op_le os_le (ei_fld T.pok (ei_var 3)) (ei_ix (ei_var 1) (ei_int))) (tw_and1 (ti_cmp op_le os_le (ei_fld T.pok (ei_var 3)) (ei_ix (ei_var 1) (ei_int)))))) (bi_one (si_ret (ei_bl))) (bi_nil)) (bi_one (si_ret (ei_and (ei_fld T.pok (ei_var 3)) (ei_and (ei_cmp op_le os_le (ei_fld T.pok (ei_var 3)) (ei_ix (ei_var 1) (ei_int))) (ei_and1 (ei_cmp op_le os_le (ei_fld T.pok (ei_var 3)) (ei_ix (ei_var 1) (ei_int)))))))))))
theorem ok_fits (T : Txt K mg) : Has P w K mg base 3 "fits" (He.ga K "fits") ps_fits F_fits := by
  obtain ⟨fd, F⟩ := T.d_fits
  exact ⟨⟨fd, fn_fits T F, F.bindsN (fun _ _ _ _ _ _ us hl => match us, hl with | [_, _, _], _ => rfl)⟩, T.g_fits, F.kp⟩
theorem fn_holds_rest (T : Txt K mg) {f : Addr} {fd : FuncData} (F : FunD K "holds_rest" "holds_rest" (defArgs s_holds_rest) (defBody s_holds_rest) (defScope s_holds_rest) [] [] f fd) : FnOk P w K mg base (L2.CX P w) 2 f fd ps_holds_rest (spI K F_holds_rest ps_holds_rest.length) := by
  have h_is_clean := ok_is_clean (P := P) (w := w) (base := base) T
  exact fn_ok finR_ok (N := N_holds_rest) (ps := ps_holds_rest) (k := 1) F sc_holds_rest (fun cdv A outer s H E hr tk hp => bi_one (si_ret (ei_and (ei_f h_is_clean hr tk (by decide) (ai_cons (ei_var 0) (ai_nil)) (axn_cons (axn_nil))) (ei_and (ei_cmp op_le os_le (ei_fld T.pok (ei_var 1)) (ei_ix (ei_var 0) (ei_int))) (ei_and1 (ei_cmp op_le os_le (ei_fld T.pok (ei_var 1)) (ei_ix (ei_var 0) (ei_int))))))))
theorem ok_holds_rest (T : Txt K mg) : Has P w K mg base 2 "holds_rest" (He.ga K "holds_rest") ps_holds_rest F_holds_rest := by
  obtain ⟨fd, F⟩ := T.d_holds_rest
  exact ⟨⟨fd, fn_holds_rest T F, F.bindsN (fun _ _ _ _ _ _ us hl => match us, hl with | [_, _], _ => rfl)⟩, T.g_holds_rest, F.kp⟩
theorem fn_ends_at (T : Txt K mg) {f : Addr} {fd : FuncData} (F : FunD K "ends_at" "ends_at" (defArgs s_ends_at) (defBody s_ends_at) (defScope s_ends_at) [] [] f fd) : FnOk P w K mg base (L2.CX P w) 4 f fd ps_ends_at (spI K F_ends_at ps_ends_at.length) := by
  have h_fits := ok_fits (P := P) (w := w) (base := base) T
  have h_holds_rest := ok_holds_rest (P := P) (w := w) (base := base) T
  exact fn_ok finR_ok (N := N_ends_at) (ps := ps_ends_at) (k := 3) F sc_ends_at (fun cdv A outer s H E hr tk hp => bi_cons (si_setLcL 2 (own := [("kind", 5)]) rfl (sc_ends_at).nd (ii_rng1 rfl T.g_range (ai_cons (ei_len T.g_len (ai_cons (ei_fld T.pok (ei_var 0)) (ai_nil))) (ai_nil))) (blkOk_by (N := N_ends_at) (sc := defScope s_ends_at) (by decide +kernel)) (fun _ _ _ _ _ => gi_name 5 (sc_ends_at).nd) (fun _ _ _ _ _ => tsi_one (ti_val (ei_f h_fits hr takes_W0 (by decide) (ai_cons (ei_var 0) (ai_cons (ei_var 1) (ai_cons (ei_var 5) (ai_nil)))) (axn_cons (axn_cons (axn_cons (axn_nil))))))) (fun _ _ _ _ _ => ei_tup (ai_cons (ei_str) (ai_cons (ei_var 1) (ai_cons (ei_var 5) (ai_nil))))) (sw_true rfl rfl rfl (by decide +kernel))) (bi_cons (si_if (ti_cmp op_lt os_lt (ei_op op_addD os_add (ei_ix (ei_var 1) (ei_int)) (ei_int)) (ei_len T.g_len (ai_cons (ei_fld T.pok (ei_var 0)) (ai_nil)))) (bi_one (si_for (vs := [3, 4]) hp rfl (ii_enum rfl T.g_enumerate (ei_fld T.pok (ei_var 0))) (gi_tup 2 rfl (gsi_cons (gi_name 3 (sc_ends_at).nd) (gsi_cons (gi_name 4 (sc_ends_at).nd) (gsi_nil))) (len_cons (len_cons (len_nil)))) (bi_one (si_if (ti_val (ei_f h_holds_rest hr tk (by decide) (ai_cons (ei_var 1) (ai_cons (ei_var 4) (ai_nil))) (axn_cons (axn_cons (axn_nil))))) (bi_one (si_app 2 (ei_var 2) (ei_tup (ai_cons (ei_str) (ai_cons (ei_var 1) (ai_cons (ei_var 3) (ai_nil))))))) (bi_nil))))) (bi_nil)) (bi_one (si_ret (ei_var 2)))))
theorem ok_ends_at (T : Txt K mg) : Has P w K mg base 4 "ends_at" (He.ga K "ends_at") ps_ends_at F_ends_at := by
  obtain ⟨fd, F⟩ := T.d_ends_at
  exact ⟨⟨fd, fn_ends_at T F, F.bindsN (fun _ _ _ _ _ _ us hl => match us, hl with | [_, _], _ => rfl)⟩, T.g_ends_at, F.kp⟩
theorem fn_side_of (T : Txt K mg) {f : Addr} {fd : FuncData} (F : FunD K "side_of" "side_of" (defArgs s_side_of) (defBody s_side_of) (defScope s_side_of) [] [] f fd) : FnOk P w K mg base (L2.CX P w) 1 f fd ps_side_of (spI K F_side_of ps_side_of.length) := by
  exact fn_ok finR_ok (N := N_side_of) (ps := ps_side_of) (k := 0) F sc_side_of (fun cdv A outer s H E hr tk hp => bi_one (si_ret (ei_if (ti_cmp (op_eq2 hr.units) os_eq (ei_var 1) (ei_int)) (ei_ix (ei_var 0) (ei_int)) (ei_ix (ei_var 0) (ei_int)))))
theorem ok_side_of (T : Txt K mg) : Has P w K mg base 1 "side_of" (He.ga K "side_of") ps_side_of F_side_of := by
  obtain ⟨fd, F⟩ := T.d_side_of
  exact ⟨⟨fd, fn_side_of T F, F.bindsN (fun _ _ _ _ _ _ us hl => match us, hl with | [_, _], _ => rfl)⟩, T.g_side_of, F.kp⟩
theorem fn_may_cut (T : Txt K mg) {f : Addr} {fd : FuncData} (F : FunD K "may_cut" "may_cut" (defArgs s_may_cut) (defBody s_may_cut) (defScope s_may_cut) [] [] f fd) : FnOk P w K mg base (L2.CX P w) 2 f fd ps_may_cut (spI K F_may_cut ps_may_cut.length) := by
  have h_side_of := ok_side_of (P := P) (w := w) (base := base) T
  exact fn_ok finR_ok (N := N_may_cut) (ps := ps_may_cut) (k := 1) F sc_may_cut (fun cdv A outer s H E hr tk hp => bi_cons (si_if (ti_w (tw_or (ti_cmp (op_notIn2 hr.units) os_notIn (ei_var 1) (ei_tup (ai_cons (ei_int) (ai_cons (ei_int) (ai_nil))))) (tw_or1 (ti_not (ti_chain op_le os_le op_lt os_lt (ei_int) (ei_var 2) (ei_f h_side_of hr tk (by decide) (ai_cons (ei_var 0) (ai_cons (ei_var 1) (ai_nil))) (axn_cons (axn_cons (axn_nil))))))))) (bi_one (si_ret (ei_bl))) (bi_nil)) (bi_one (si_ret (ei_or (ei_cmp (op_eq2 hr.units) os_eq (ei_ix (ei_var 0) (ei_int)) (ei_un un_neg us_neg (ei_int))) (ei_or (ei_cmp (op_eq2 hr.units) os_eq (ei_ix (ei_var 0) (ei_int)) (ei_var 1)) (ei_and1 (ei_cmp op_ge os_ge (ei_ix (ei_var 0) (ei_int)) (ei_int))))))))
theorem ok_may_cut (T : Txt K mg) : Has P w K mg base 2 "may_cut" (He.ga K "may_cut") ps_may_cut F_may_cut := by
  obtain ⟨fd, F⟩ := T.d_may_cut
  exact ⟨⟨fd, fn_may_cut T F, F.bindsN (fun _ _ _ _ _ _ us hl => match us, hl with | [_, _, _], _ => rfl)⟩, T.g_may_cut, F.kp⟩
theorem fn_cuts_at (T : Txt K mg) {f : Addr} {fd : FuncData} (F : FunD K "cuts_at" "cuts_at" (defArgs s_cuts_at) (defBody s_cuts_at) (defScope s_cuts_at) [] [] f fd) : FnOk P w K mg base (L2.CX P w) 3 f fd ps_cuts_at (spI K F_cuts_at ps_cuts_at.length) := by
  have h_side_of := ok_side_of (P := P) (w := w) (base := base) T
  have h_may_cut := ok_may_cut (P := P) (w := w) (base := base) T
  exact fn_ok finR_ok (N := N_cuts_at) (ps := ps_cuts_at) (k := 2) F sc_cuts_at (fun cdv A outer s H E hr tk hp => bi_cons (si_set 1 (sc_cuts_at).nd (ei_lstL (ai_nil))) (bi_cons (si_for (vs := [2]) hp rfl (ii_any (ei_tup (ai_cons (ei_int) (ai_cons (ei_int) (ai_nil))))) (gi_name 2 (sc_cuts_at).nd) (bi_one (si_for (vs := [3]) hp rfl (ii_rng2 rfl T.g_range (ai_cons (ei_int) (ai_cons (ei_f h_side_of hr tk (by decide) (ai_cons (ei_var 0) (ai_cons (ei_var 2) (ai_nil))) (axn_cons (axn_cons (axn_nil)))) (ai_nil)))) (gi_name 3 (sc_cuts_at).nd) (bi_one (si_if (ti_val (ei_f h_may_cut hr tk (by decide) (ai_cons (ei_var 0) (ai_cons (ei_var 2) (ai_cons (ei_var 3) (ai_nil)))) (axn_cons (axn_cons (axn_cons (axn_nil)))))) (bi_one (si_app 1 (ei_var 1) (ei_tup (ai_cons (ei_str) (ai_cons (ei_var 0) (ai_cons (ei_var 2) (ai_cons (ei_var 3) (ai_nil)))))))) (bi_nil)))))) (bi_one (si_ret (ei_var 1)))))
theorem ok_cuts_at (T : Txt K mg) : Has P w K mg base 3 "cuts_at" (He.ga K "cuts_at") ps_cuts_at F_cuts_at := by
  obtain ⟨fd, F⟩ := T.d_cuts_at
  exact ⟨⟨fd, fn_cuts_at T F, F.bindsN (fun _ _ _ _ _ _ us hl => match us, hl with | [_], _ => rfl)⟩, T.g_cuts_at, F.kp⟩
theorem fn_deeds_at (T : Txt K mg) {f : Addr} {fd : FuncData} (F : FunD K "deeds_at" "deeds_at" (defArgs s_deeds_at) (defBody s_deeds_at) (defScope s_deeds_at) [] [] f fd) : FnOk P w K mg base (L2.CX P w) 5 f fd ps_deeds_at (spI K F_deeds_at ps_deeds_at.length) := by
  have h_ends_at := ok_ends_at (P := P) (w := w) (base := base) T
  have h_cuts_at := ok_cuts_at (P := P) (w := w) (base := base) T
  exact fn_ok finL_ok (N := N_deeds_at) (ps := ps_deeds_at) (k := 4) F sc_deeds_at (fun cdv A outer s H E hr tk hp => bi_one (si_ret (ei_addL (ei_f h_ends_at hr tk (by decide) (ai_cons (ei_var 0) (ai_cons (ei_var 1) (ai_nil))) (axn_cons (axn_cons (axn_nil)))) (ei_f h_cuts_at hr tk (by decide) (ai_cons (ei_var 1) (ai_nil)) (axn_cons (axn_nil))))))
theorem ok_deeds_at (T : Txt K mg) : Has P w K mg base 5 "deeds_at" (He.ga K "deeds_at") ps_deeds_at F_deeds_at := by
  obtain ⟨fd, F⟩ := T.d_deeds_at
  exact ⟨⟨fd, fn_deeds_at T F, F.bindsN (fun _ _ _ _ _ _ us hl => match us, hl with | [_, _], _ => rfl)⟩, T.g_deeds_at, F.kp⟩
theorem ok_deeds_at_k0 (T : Txt K mg) : HasG P w K mg base 5 "deeds_at" (He.ga K "deeds_at") ps_deeds_at 0 ["part", "sheet"] (fun xs ys => perm [1, 0] (xs ++ ys)) F_deeds_at := by
  obtain ⟨fd, F⟩ := T.d_deeds_at
  exact ⟨⟨fd, fn_deeds_at T F, kb2 F 0 ["part", "sheet"] [1, 0] (fun _ _ _ _ _ _ us ws h1 h2 => match us, ws, h1, h2 with | [], [_, _], _, _ => rfl)⟩, T.g_deeds_at, F.kp⟩
theorem fn__law_same (T : Txt K mg) {f : Addr} {fd : FuncData} (F : FunD K "_law_same" "_law_same" (defArgs s__law_same) (defBody s__law_same) (defScope s__law_same) [] [] f fd) (hb : Binds K fd ps__law_same []) (gl : mg "_law_same" = some (.ref f)) : ∀ n : Nat, FnOk P w K mg base (L2.CX P w) (0 + n) f fd ps__law_same (spI K (F__law_same n) ps__law_same.length)
  | 0 => fn_bad
  | n + 1 => by
    have hrec : Has P w K mg base (0 + n) "_law_same" f ps__law_same (F__law_same n) := ⟨⟨fd, fn__law_same T F hb gl n, hb⟩, gl, F.kp⟩
    exact fn_ok finR_ok (N := N__law_same) (ps := ps__law_same) (k := 0 + n) F sc__law_same (fun cdv A outer s H E hr tk hp => bi_cons (si_if (ti_cmp op_isN os_isN (ei_var 1) (ei_non)) (bi_one (si_ret (ei_cmp op_isN os_isN (ei_var 0) (ei_non)))) (bi_nil)) (bi_cons (si_if (ti_val (ei_isi T.pok T.g_isinstance (ai_cons (ei_var 1) (ai_cons (ei_tyBool T.g_bool) (ai_nil))))) (bi_one (si_ret (ei_and (ei_isi T.pok T.g_isinstance (ai_cons (ei_var 0) (ai_cons (ei_tyBool T.g_bool) (ai_nil)))) (ei_and1 (ei_cmp (op_eq2 hr.units) os_eq (ei_var 0) (ei_var 1)))))) (bi_nil)) (bi_cons (si_if (ti_val (ei_isi T.pok T.g_isinstance (ai_cons (ei_var 1) (ai_cons (ei_tyInt T.g_int) (ai_nil))))) (bi_one (si_ret (ei_and (ei_isi T.pok T.g_isinstance (ai_cons (ei_var 0) (ai_cons (ei_tyInt T.g_int) (ai_nil)))) (ei_and (ei_not (ei_isi T.pok T.g_isinstance (ai_cons (ei_var 0) (ai_cons (ei_tyBool T.g_bool) (ai_nil))))) (ei_and1 (ei_cmp (op_eq2 hr.units) os_eq (ei_var 0) (ei_var 1))))))) (bi_nil)) (bi_cons (si_if (ti_val (ei_isi T.pok T.g_isinstance (ai_cons (ei_var 1) (ai_cons (ei_tyStr T.g_str) (ai_nil))))) (bi_one (si_ret (ei_and (ei_isi T.pok T.g_isinstance (ai_cons (ei_var 0) (ai_cons (ei_tyStr T.g_str) (ai_nil)))) (ei_and1 (ei_cmp (op_eq2 hr.units) os_eq (ei_var 0) (ei_var 1)))))) (bi_nil)) (bi_cons (si_if (ti_w (tw_and (ti_val (ei_isi T.pok T.g_isinstance (ai_cons (ei_var 1) (ai_cons (ei_tyTuple T.g_tuple) (ai_nil))))) (tw_and1 (ti_not (ti_val (ei_isi T.pok T.g_isinstance (ai_cons (ei_var 0) (ai_cons (ei_tyTuple T.g_tuple) (ai_nil))))))))) (bi_one (si_ret (ei_bl))) (bi_nil)) (bi_cons (si_if (ti_w (tw_and (ti_val (ei_isi T.pok T.g_isinstance (ai_cons (ei_var 1) (ai_cons (ei_tyList T.g_list) (ai_nil))))) (tw_and1 (ti_not (ti_val (ei_isi T.pok T.g_isinstance (ai_cons (ei_var 0) (ai_cons (ei_tyList T.g_list) (ai_nil))))))))) (bi_one (si_ret (ei_bl))) (bi_nil)) (bi_cons (si_if (ti_cmp (op_ne2 hr.units) os_ne (ei_len T.g_len (ai_cons (ei_var 0) (ai_nil))) (ei_len T.g_len (ai_cons (ei_var 1) (ai_nil)))) (bi_one (si_ret (ei_bl))) (bi_nil)) (bi_cons (si_for (vs := [2]) hp rfl (ii_rng1 rfl T.g_range (ai_cons (ei_len T.g_len (ai_cons (ei_var 1) (ai_nil))) (ai_nil))) (gi_name 2 (sc__law_same).nd) (bi_one (si_if (ti_not (ti_val (ei_f hrec hr tk (Nat.le_refl _) (ai_cons (ei_ix (ei_var 0) (ei_var 2)) (ai_cons (ei_ix (ei_var 1) (ei_var 2)) (ai_nil))) (axn_cons (axn_cons (axn_nil)))))) (bi_one (si_ret (ei_bl))) (bi_nil)))) (bi_one (si_ret (ei_bl)))))))))))
theorem ok__law_same (T : Txt K mg) (n : Nat) : Has P w K mg base (0 + n) "_law_same" (He.ga K "_law_same") ps__law_same (F__law_same n) := by
  obtain ⟨fd, F⟩ := T.d__law_same
  have hb : Binds K fd ps__law_same [] := F.bindsN (fun _ _ _ _ _ _ us hl => match us, hl with | [_, _], _ => rfl)
  exact ⟨⟨fd, fn__law_same T F hb T.g__law_same n, hb⟩, T.g__law_same, F.kp⟩
theorem fn_law (T : Txt K mg) {f : Addr} {fd : FuncData} (F : FunD K "law" "law" (defArgs s_law) (defBody s_law) (defScope s_law) [] [] f fd) : FnOk P w K mg base (L2.CX P w) 9 f fd ps_law (spI K F_law ps_law.length) := by
  have h__law_pool := ok__law_pool (P := P) (w := w) (base := base) T
  have h__law_drawn := ok__law_drawn (P := P) (w := w) (base := base) T
  have h__law_built := ok__law_built (P := P) (w := w) (base := base) T
  have h__law_part := ok__law_part (P := P) (w := w) (base := base) T
  have h__law_list := ok__law_list (P := P) (w := w) (base := base) T
  have h_deeds_at := ok_deeds_at (P := P) (w := w) (base := base) T
  have h_deeds_at_k0 := ok_deeds_at_k0 (P := P) (w := w) (base := base) T
  have h__law_same := ok__law_same (P := P) (w := w) (base := base) T 8
  exact fn_ok finR_ok (N := N_law) (ps := ps_law) (k := 8) F sc_law (fun cdv A outer s H E hr tk hp => bi_cons (si_set 1 (sc_law).nd (ei_f h__law_pool hr tk (by decide) (ai_cons (ei_var 0) (ai_nil)) (axn_cons (axn_nil)))) (bi_cons (si_set 2 (sc_law).nd (ei_f h__law_drawn hr tk (by decide) (ai_cons (ei_var 1) (ai_nil)) (axn_cons (axn_nil)))) (bi_cons (si_set 3 (sc_law).nd (ei_f h__law_built hr tk (by decide) (ai_cons (ei_var 2) (ai_nil)) (axn_cons (axn_nil)))) (bi_cons (si_for (vs := [4]) hp rfl (ii_rng1 rfl T.g_range (ai_cons (ei_int) (ai_nil))) (gi_name 4 (sc_law).nd) (bi_cons (si_set 5 (sc_law).nd (ei_f h__law_part hr tk (by decide) (ai_cons (ei_var 1) (ai_cons (ei_ix (ei_var 2) (ei_int)) (ai_cons (ei_ix (ei_var 2) (ei_int)) (ai_nil)))) (axn_cons (axn_cons (axn_cons (axn_nil)))))) (bi_cons (si_set 6 (sc_law).nd (ei_f h__law_list hr tk (by decide) (ai_cons (ei_var 2) (ai_cons (ei_var 5) (ai_nil))) (axn_cons (axn_cons (axn_nil))))) (bi_cons (si_set 7 (sc_law).nd (ei_f h_deeds_at hr tk (by decide) (ai_cons (ei_var 3) (ai_cons (ei_var 5) (ai_nil))) (axn_cons (axn_cons (axn_nil))))) (bi_cons (si_if (ti_not (ti_val (ei_f h__law_same hr tk (by decide) (ai_cons (ei_var 7) (ai_cons (ei_var 6) (ai_nil))) (axn_cons (axn_cons (axn_nil)))))) (bi_one (si_ret (ei_bl))) (bi_nil)) (bi_cons (si_app 7 (ei_var 7) (ei_tup (ai_cons (ei_str) (ai_cons (ei_var 5) (ai_cons (ei_int) (ai_nil)))))) (bi_cons (si_sets 7 (ei_var 7) (ei_int) (ei_tup (ai_cons (ei_str) (ai_cons (ei_var 5) (ai_cons (ei_int) (ai_cons (ei_int) (ai_nil))))))) (bi_one (si_if (ti_not (ti_val (ei_f h__law_same hr tk (by decide) (ai_cons (ei_fk (h_deeds_at_k0) hr tk (by decide) (fun xs ys h1 h2 => match xs, ys, h1, h2 with | [], [_, _], _, _ => rfl) (ki_cons (ei_var 5) (ki_cons (ei_var 3) (ki_nil))) (axn_cons (axn_cons (axn_nil)))) (ai_cons (ei_var 6) (ai_nil))) (axn_cons (axn_cons (axn_nil)))))) (bi_one (si_ret (ei_bl))) (bi_nil)))))))))) (bi_one (si_ret (ei_bl)))))))
theorem ok_law (T : Txt K mg) : Has P w K mg base 9 "law" (He.ga K "law") ps_law F_law := by
  obtain ⟨fd, F⟩ := T.d_law
  exact ⟨⟨fd, fn_law T F, F.bindsN (fun _ _ _ _ _ _ us hl => match us, hl with | [_], _ => rfl)⟩, T.g_law, F.kp⟩
end
end K09

set_option Elab.async false
set_option linter.all false
set_option maxRecDepth 100000
namespace K09
open Cb
open PySem (Str)
@[simp] theorem oIx_one (d : D) : oIx (.lst [d]) (.int 0) = some d := rfl
theorem view0 (x : List D) (st : Sto) : view (.lst x :: st) (.ref 0) = .lst x := rfl
theorem draw (N m : Int) (st : Sto) (h : 0 < m) (h2 : m < 2 ^ 64) : F__law_draw [.ref 0, .int m] (.lst [.int N] :: st) = .ok (.int (N % m)) (.lst [.int (N / m)] :: st) := by
  simp [F__law_draw, B__law_draw, List.replicate, view0, oMod_pos _ _ h, oDiv_pos _ _ h h2, ixD, D.gnd]
theorem draw_lt (N : Int) {m : Int} (h : 0 < m) : 0 ≤ N % m ∧ N % m < m := ⟨Int.emod_nonneg _ (by omega), Int.emod_lt_of_pos _ h⟩
/-! the pool -/
def absD : D → D
  | .int i => .int (if i < 0 then -i else i)
  | d => d
theorem getI {ds : List Int} {i : Nat} {d : D} (h : (ds.map D.int)[i]? = some d) : ∃ c, d = .int c := by
  rw [List.getElem?_map] at h
  cases hc : ds[i]? with
  | none => rw [hc] at h; cases h
  | some c =>
    rw [hc] at h
    cases h
    exact ⟨c, rfl⟩
theorem pool (ns : List Int) (hl : ns.length ≤ 63) : ∃ N : Int, F__law_pool [.scr (ns.map D.int)] [] = .ok (.ref 0) [.lst [.int N]] := by
  have hcut : oSl (.scr (ns.map D.int)) none (some 63) = some (.lst (ns.map D.int)) := by
    show some (D.lst (((ns.map D.int).drop 0).take (min 63 (ns.map D.int).length - 0))) = _
    rw [List.drop_zero, List.take_of_length_le (by simp; omega)]
  have hlc := lcL_map (g := gName 2) (c := tYes) (e := C__law_pool_0) (env := [some (.scr (ns.map D.int)), none, none, none, none]) (st := []) (p := fun _ => true) (h := absD) (ns.map D.int) [] (by simp; omega) (fun d hd => by
    obtain ⟨i, _, rfl⟩ := List.mem_map.mp hd
    exact ⟨_, rfl, fun acc => ⟨rfl, fun _ => ⟨by simp [C__law_pool_0, absD], by simp [D.gnd, absD]⟩⟩⟩)
  have hm : ((ns.map D.int).filter fun _ => true).map absD = (ns.map fun i => if i < 0 then -i else i).map D.int := by
    rw [List.filter_eq_self.mpr (fun _ _ => rfl), List.map_map, List.map_map]
    rfl
  rw [hm] at hlc
  generalize hcs : (ns.map fun i => if i < 0 then -i else i) = cs at hlc
  have hcl : cs.length = ns.length := by rw [← hcs]; simp
  simp only [List.length_nil, List.nil_append] at hlc
  have f1 := forL_ex (g := gName 2) (b := L__law_pool_0) (ds := cs.map D.int) (I := fun _ env st => ∃ x, env = [some (.scr (ns.map D.int)), some (.lst (cs.map D.int)), x, none, none] ∧ st = []) (Rt := fun r st => ∃ N : Int, r = .ref 0 ∧ st = [.lst [.int N]]) (fun i d env st hd hI => by
    obtain ⟨x, rfl, rfl⟩ := hI
    obtain ⟨c, rfl⟩ := getI hd
    refine ⟨_, rfl, ?_⟩
    by_cases hge : (1000000000000000000 : Int) ≤ c
    · have e : L__law_pool_0 [some (.scr (ns.map D.int)), some (.lst (cs.map D.int)), some (.int c), none, none] [] = .ok (.rt (.ref 0)) [.lst [.int c]] := by simp [L__law_pool_0, oPow, hge, D.gnd, D.gnds]
      exact .inr ⟨_, _, e, c, rfl, rfl⟩
    · have e : L__law_pool_0 [some (.scr (ns.map D.int)), some (.lst (cs.map D.int)), some (.int c), none, none] [] = .ok (.nx [some (.scr (ns.map D.int)), some (.lst (cs.map D.int)), some (.int c), none, none]) [] := by simp [L__law_pool_0, oPow, hge]
      exact .inl ⟨_, _, .inl e, _, rfl, rfl⟩) (env := [some (.scr (ns.map D.int)), some (.lst (cs.map D.int)), none, none, none]) (st := []) ⟨none, rfl, rfl⟩
  have f2 := fun (x : Option D) (n0 : Int) => forL_inv (g := gName 2) (b := L__law_pool_1) (ds := cs.map D.int) (I := fun _ env st => ∃ x n, env = [some (.scr (ns.map D.int)), some (.lst (cs.map D.int)), x, some (.int n), none] ∧ st = []) (fun i d env st hd hI => by
    obtain ⟨x, n, rfl, rfl⟩ := hI
    obtain ⟨c, rfl⟩ := getI hd
    have e : L__law_pool_1 [some (.scr (ns.map D.int)), some (.lst (cs.map D.int)), some (.int c), some (.int n), none] [] = .ok (.nx [some (.scr (ns.map D.int)), some (.lst (cs.map D.int)), some (.int c), some (.int (n * 1000003 + c + 7)), none]) [] := by simp [L__law_pool_1, oMul_r n 1000003 (by decide) (by decide)]
    exact ⟨_, _, _, rfl, e, _, _, rfl, rfl⟩) (env := [some (.scr (ns.map D.int)), some (.lst (cs.map D.int)), x, some (.int n0), none]) (st := []) ⟨x, n0, rfl, rfl⟩
  have f3 := fun (x : Option D) (n0 : Int) => forL_inv (g := gName 4) (b := L__law_pool_2) (ds := rgD 0 19) (I := fun _ env st => ∃ n y, env = [some (.scr (ns.map D.int)), some (.lst (cs.map D.int)), x, some (.int n), y] ∧ st = []) (fun i d env st hd hI => by
    obtain ⟨n, y, rfl, rfl⟩ := hI
    have hi : i < 19 := by simpa [rgD] using (List.getElem?_eq_some_iff.mp hd).1
    have hd2 : d = .int (i : Nat) := by
      have : (rgD 0 19)[i]? = some (.int (i : Nat)) := by simp [rgD, hi]
      rw [this] at hd
      exact (Option.some.inj hd).symm
    subst hd2
    have hm := draw_lt n (m := 999983) (by decide)
    have e : L__law_pool_2 [some (.scr (ns.map D.int)), some (.lst (cs.map D.int)), x, some (.int n), some (.int (i : Nat))] [] = .ok (.nx [some (.scr (ns.map D.int)), some (.lst (cs.map D.int)), x, some (.int (n * (n % 999983 + 48271) + (i : Nat))), some (.int (i : Nat))]) [] := by
      simp [L__law_pool_2, oMod_pos n 999983 (by decide), oMul_r n (n % 999983 + 48271) (by omega) (by omega)]
    exact ⟨_, _, _, rfl, e, _, _, rfl, rfl⟩) (env := [some (.scr (ns.map D.int)), some (.lst (cs.map D.int)), x, some (.int n0), none]) (st := []) ⟨n0, none, rfl, rfl⟩
  rcases f1 with ⟨env1, st1, e1, x1, rfl, rfl⟩ | ⟨r, st1, e1, N, rfl, rfl⟩
  · obtain ⟨env2, st2, e2, x2, n2, rfl, rfl⟩ := f2 x1 (5 + cs.length)
    obtain ⟨env3, st3, e3, n3, y3, rfl, rfl⟩ := f3 x2 n2
    refine ⟨n3, ?_⟩
    simp [F__law_pool, B__law_pool, List.replicate, hcut, hlc, e1, e2, e3, D.gnds, D.gnd, finL]
  · refine ⟨N, ?_⟩
    simp [F__law_pool, B__law_pool, List.replicate, hcut, hlc, e1, finL]
end K09

set_option Elab.async false
set_option linter.all false
set_option maxRecDepth 100000
set_option maxHeartbeats 1000000
namespace K09
open Cb
open PySem (Str)
/-! names, ranges -/
abbrev letter (c : Nat) : Str := ⟨#[c]⟩
theorem az : (Str.ofString "abcdefghijklmnopqrstuvwxyz").cps.toList = List.range' 97 26 := by decide +kernel
theorem az9 : (Str.ofString "abcdefghijklmnopqrstuvwxyz0123456789").cps.toList = List.range' 97 26 ++ List.range' 48 10 := by decide +kernel
theorem is_name (c : Nat) (h : 97 ≤ c ∧ c ≤ 122) (st : Sto) : F_is_name [.str (letter c)] st = .ok (.bl true) st := by
  have h1 : oNotIn (.str (letter c)) (.str (Str.ofString "abcdefghijklmnopqrstuvwxyz")) = some (.bl false) := by
    simp only [oNotIn, isInD, az, Option.map_some, Option.some.injEq, D.bl.injEq]
    simp
    omega
  have h2 : oNotIn (.str (letter c)) (.str (Str.ofString "abcdefghijklmnopqrstuvwxyz0123456789")) = some (.bl false) := by
    simp only [oNotIn, isInD, az9, Option.map_some, Option.some.injEq, D.bl.injEq]
    simp
    omega
  have h3 : cLen [.str (letter c)] = some (.int 1) := rfl
  have h4 : oIx (.str (letter c)) (.int 0) = some (.str (letter c)) := rfl
  simp [F_is_name, B_is_name, List.replicate, h1, h2, h3, h4, forL, L_is_name_0]
theorem check_name (c : Nat) (h : 97 ≤ c ∧ c ≤ 122) (st : Sto) : F_check_name [.str (letter c)] st = .ok .non st := by
  simp [F_check_name, B_check_name, List.replicate, is_name c h]
theorem in_range (x : Str) (i lo hi : Int) (h : lo ≤ i ∧ i ≤ hi) (st : Sto) : F_in_range [.str x, .int i, .int lo, .int hi] st = .ok .non st := by
  simp [F_in_range, B_in_range, List.replicate, h.1, h.2]
theorem check_sides (l w : Int) (h : 1 ≤ l ∧ l ≤ 60) (h2 : 1 ≤ w ∧ w ≤ 60) (st : Sto) : F_check_sides [.int l, .int w] st = .ok .non st := by
  simp [F_check_sides, B_check_sides, List.replicate, in_range _ l 1 60 h, in_range _ w 1 60 h2]
/-! making -/
@[simp] theorem take_all1 (st : Sto) (o : SO) : List.take (List.length st + 1) (st ++ [o]) = st ++ [o] := by
  rw [List.take_of_length_le (by simp)]
@[simp] theorem take_all2 (st : Sto) (o u : SO) : List.take (List.length st + 1) (st ++ [o, u]) = st ++ [o] := by
  rw [List.take_append, List.take_of_length_le (by omega)]
  simp
abbrev oKind (c : Nat) (l w p : Int) (t : Bool) : D := .obj "Kind" ["name", "length", "width", "price", "turns"] [.str (letter c), .int l, .int w, .int p, .bl t]
theorem mk_kind (c : Nat) (l w p : Int) (t : Bool) (hc : 97 ≤ c ∧ c ≤ 122) (h : 1 ≤ l ∧ l ≤ 60) (h2 : 1 ≤ w ∧ w ≤ 60) (h3 : 0 ≤ p ∧ p ≤ 1000000000) (st : Sto) :
    mkD "Kind" F_init_Kind [.str (letter c), .int l, .int w, .int p, .bl t] st = .ok (oKind c l w p t) st := by
  simp [mkD, F_init_Kind, B_init_Kind, List.replicate, check_name c hc, check_sides l w h h2, in_range _ p 0 1000000000 h3, D.gnd, pg]
abbrev oRest (c : Nat) (l w p : Int) : D := .obj "Rest" ["name", "length", "width", "cost"] [.str (letter c), .int l, .int w, .int p]
theorem mk_rest (c : Nat) (l w p : Int) (hc : 97 ≤ c ∧ c ≤ 122) (h : 1 ≤ l ∧ l ≤ 60) (h2 : 1 ≤ w ∧ w ≤ 60) (h3 : 0 ≤ p ∧ p ≤ 1000000000) (ha : 1 ≤ l * w ∧ l * w ≤ 120) (st : Sto) :
    mkD "Rest" F_init_Rest [.str (letter c), .int l, .int w, .int p] st = .ok (oRest c l w p) st := by
  simp [mkD, F_init_Rest, B_init_Rest, List.replicate, check_name c hc, check_sides l w h h2, in_range _ p 0 1000000000 h3, oMul_r l w (by omega) (by omega), in_range _ (l * w) 1 120 ha, D.gnd, pg]
abbrev oDay (n : Nat) : D := .obj "Day" ["orders", "supplies"] [.tup (List.replicate n (.tup [.int 0, .int 0])), .tup [.int 1]]
theorem mk_day (n : Nat) (hn : n ≤ 6) (st : Sto) : mkD "Day" F_init_Day [.lst (List.replicate n (.tup [.int 0, .int 0])), .tup [.int 1]] st = .ok (oDay n) st := by
  have f1 := fun st : Sto => forL_inv (g := gTup (gCons (gName 3) (gCons (gName 4) gNil))) (b := L_init_Day_0) (ds := List.replicate n (.tup [.int 0, .int 0])) (I := fun _ env s => ∃ x y, env = [some (.ref st.length), some (.lst (List.replicate n (.tup [.int 0, .int 0]))), some (.tup [.int 1]), x, y, none] ∧ s = st ++ [.ins "Day" [] []]) (fun i d env s hd hI => by
    obtain ⟨x, y, rfl, rfl⟩ := hI
    have := List.eq_of_mem_replicate (List.mem_of_getElem? hd)
    subst this
    have e : L_init_Day_0 [some (.ref st.length), some (.lst (List.replicate n (.tup [.int 0, .int 0]))), some (.tup [.int 1]), some (.int 0), some (.int 0), none] (st ++ [.ins "Day" [] []]) = .ok (.nx [some (.ref st.length), some (.lst (List.replicate n (.tup [.int 0, .int 0]))), some (.tup [.int 1]), some (.int 0), some (.int 0), none]) (st ++ [.ins "Day" [] []]) := by
      simp [L_init_Day_0, in_range _ 0 0 6 (by decide), in_range _ 0 0 0 (by decide)]
    exact ⟨_, _, _, rfl, e, _, _, rfl, rfl⟩) (env := [some (.ref st.length), some (.lst (List.replicate n (.tup [.int 0, .int 0]))), some (.tup [.int 1]), none, none, none]) (st := st ++ [.ins "Day" [] []]) ⟨none, none, rfl, rfl⟩
  obtain ⟨env, st', e1, x, y, rfl, rfl⟩ := f1 st
  have hlc := lcL_map (g := gTup (gCons (gName 3) (gCons (gName 4) gNil))) (c := tYes) (e := C_init_Day_0) (env := [some (.ref st.length), some (.lst (List.replicate n (.tup [.int 0, .int 0]))), some (.tup [.int 1]), none, none, some (.int 1)]) (st := st ++ [.ins "Day" [] []]) (p := fun _ => true) (h := fun d => d) (List.replicate n (.tup [.int 0, .int 0])) [] (by simp; omega) (fun d hd => by
    have := List.eq_of_mem_replicate hd
    subst this
    exact ⟨_, rfl, fun acc => ⟨rfl, fun _ => ⟨by simp [C_init_Day_0], by simp [D.gnd, D.gnds]⟩⟩⟩)
  rw [List.filter_eq_self.mpr (fun _ _ => rfl)] at hlc
  have hg : D.gnds (List.replicate n (.tup [.int 0, .int 0])) = true := by
    clear e1 hlc f1 hn
    induction n with
    | zero => rfl
    | succ n ih => simp [List.replicate_succ, D.gnds, D.gnd, ih]
  simp [mkD, F_init_Day, B_init_Day, List.replicate, e1, L_init_Day_1, forL, in_range _ 1 0 6 (by decide)]
  simp at hlc
  simp [hlc, D.gnd, D.gnds, hg, pg]
abbrev oBoard : D := .obj "Board" ["name", "length", "width", "cost", "trim", "faults"] [.str "z", .int 2, .int 2, .int 0, .int 0, .tup []]
theorem asc0 (st : Sto) : F_ascending_cells [.tup []] st = .ok (.tup []) st := by
  simp [F_ascending_cells, B_ascending_cells, List.replicate, lcL, cSorted, enumD, sortI, finR, D.gnd, D.gnds]
theorem mk_board (st : Sto) : mkD "Board" F_init_Board [.str "z", .int 2, .int 2, .int 0, .int 0, .tup []] st = .ok oBoard st := by
  have hz : (Str.ofString "z") = letter 122 := by decide +kernel
  simp [mkD, F_init_Board, B_init_Board, List.replicate, hz, check_name 122 (by decide), check_sides 2 2 (by decide) (by decide), in_range _ 0 0 1000000000 (by decide), oMul_r, in_range _ 4 1 120 (by decide), D.gnd, D.gnds, pg, asc0]
end K09

set_option Elab.async false
set_option linter.all false
set_option maxRecDepth 100000
set_option maxHeartbeats 1000000
namespace K09
open Cb
open PySem (Str)
theorem check_many (x : Str) (xs : List D) (lo hi : Int) (h : lo ≤ xs.length ∧ (xs.length : Int) ≤ hi) (st : Sto) : F_check_many [.str x, .lst xs, .int lo, .int hi] st = .ok .non st := by
  simp [F_check_many, B_check_many, List.replicate, h.1, h.2]
def nameD : D → D
  | .obj C fs xs => (attrD pg C "name" fs xs).getD .non
  | d => d
theorem letters_in (c : Nat) : ∀ cs : List Nat, (cs.map fun c => D.str (letter c)).any (fun z => z.eqv (.str (letter c))) = decide (c ∈ cs)
  | [] => rfl
  | a :: cs => by
    rw [List.map_cons, List.any_cons, letters_in c cs]
    have : D.eqv (.str (letter a)) (.str (letter c)) = decide (c = a) := by
      simp only [D.eqv]
      by_cases h : c = a
      · subst h; simp
      · rw [decide_eq_false h, beq_eq_false_iff_ne]
        intro z
        apply h
        have := congrArg (fun s : Str => s.cps) z
        simpa using this.symm
    rw [this]
    simp [List.mem_cons]
theorem plains_letters (n : Nat) : ∀ cs : List Nat, D.plains n (cs.map fun c => D.str (letter c)) = true
  | [] => rfl
  | c :: cs => by
    cases n <;> simp [D.plains, D.plain, plains_letters]
theorem enum_at : ∀ (ds : List D) (k i : Nat), (enumD k ds)[i]? = (ds[i]?).map fun d => .tup [.int ((k + i : Nat) : Int), d]
  | [], k, i => by simp [enumD]
  | d :: ds, k, 0 => by simp [enumD]
  | d :: ds, k, i + 1 => by
    rw [enumD, List.getElem?_cons_succ, List.getElem?_cons_succ, enum_at ds (k + 1) i]
    rw [show k + 1 + i = k + (i + 1) by omega]
theorem check_names (os : List D) (cs : List Nat) (ho : ∀ d ∈ os, ∃ C fs xs, d = .obj C fs xs) (hm : os.map nameD = cs.map fun c => D.str (letter c)) (hn : cs.Nodup) (hl : os.length ≤ 1000) (st : Sto) : F_check_names [.lst os] st = .ok .non st := by
  have hlen : os.length = cs.length := by simpa using congrArg List.length hm
  have hlc := lcL_map (g := gName 4) (c := tYes) (e := C_check_names_0) (env := [some (.lst os), none, none, none, none]) (st := st) (p := fun _ => true) (h := nameD) os [] (by simp; omega) (fun d hd => by
    obtain ⟨C, fs, xs, rfl⟩ := ho d hd
    have hmem : nameD (.obj C fs xs) ∈ cs.map fun c => D.str (letter c) := by rw [← hm]; exact List.mem_map_of_mem hd
    obtain ⟨c, _, hc⟩ := List.mem_map.mp hmem
    have e : attrD pg C "name" fs xs = some (.str (letter c)) := by
      simp only [nameD] at hc
      cases h : attrD pg C "name" fs xs with
      | none => rw [h] at hc; cases hc
      | some z => rw [h] at hc; rw [hc]; rfl
    exact ⟨_, rfl, fun acc => ⟨rfl, fun _ => ⟨by simp [C_check_names_0, e, nameD], by simp [nameD, e, D.gnd]⟩⟩⟩)
  rw [List.filter_eq_self.mpr (fun _ _ => rfl), hm] at hlc
  have f1 := forL_inv (g := gTup (gCons (gName 2) (gCons (gName 3) gNil))) (b := L_check_names_0) (ds := enumD 0 (cs.map fun c => D.str (letter c))) (I := fun _ env s => ∃ x y, env = [some (.lst os), some (.lst (cs.map fun c => D.str (letter c))), x, y, none] ∧ s = st) (fun i d env s hd hI => by
    obtain ⟨x, y, rfl, rfl⟩ := hI
    rw [enum_at, List.getElem?_map] at hd
    cases hc : cs[i]? with
    | none => rw [hc] at hd; cases hd
    | some c =>
      rw [hc] at hd
      cases hd
      have hcut : oSl (.lst (cs.map fun c => D.str (letter c))) none (some ((0 + i : Nat) : Int)) = some (.lst ((cs.take i).map fun c => D.str (letter c))) := by
        rw [oSl_take, Nat.zero_add, List.map_take]
      have hin : oIn (.str (letter c)) (.lst ((cs.take i).map fun c => D.str (letter c))) = some (.bl false) := by
        simp only [oIn, isInD, D.plain, plains_letters, and_self, if_true, letters_in, Option.map_some]
        rw [decide_eq_false]
        intro hmem
        obtain ⟨j, hj, e⟩ := List.mem_iff_getElem.mp hmem
        rw [List.getElem_take] at e
        obtain ⟨hi, e2⟩ := List.getElem?_eq_some_iff.mp hc
        have hji : j < i := by simp at hj; omega
        exact List.pairwise_iff_getElem.mp hn j i (by omega) hi hji (by rw [e, e2])
      have e : L_check_names_0 [some (.lst os), some (.lst (cs.map fun c => D.str (letter c))), some (.int ((0 + i : Nat) : Int)), some (.str (letter c)), none] s = .ok (.nx [some (.lst os), some (.lst (cs.map fun c => D.str (letter c))), some (.int ((0 + i : Nat) : Int)), some (.str (letter c)), none]) s := by
        simp only [L_check_names_0, sIf_ap, tB_ap, eB_ap, eVar_ap, eSl_ap, pNone_ap, pSome_ap, List.getElem?_cons_zero, List.getElem?_cons_succ, bnd_ok, view_lst0, hcut, of_some, view_str, hin, st_ok]
        rfl
      exact ⟨_, _, _, rfl, e, _, _, rfl, rfl⟩) (env := [some (.lst os), some (.lst (cs.map fun c => D.str (letter c))), none, none, none]) (st := st) ⟨none, none, rfl, rfl⟩
  obtain ⟨env, st', e1, x, y, rfl, rfl⟩ := f1
  simp only [List.nil_append] at hlc
  simp [F_check_names, B_check_names, List.replicate, hlc, e1]
theorem check_days (n m : Nat) (ks : List D) (b : D) (hk : ks.length = n) (st : Sto) : F_check_days [.lst (List.replicate m (oDay n)), .lst ks, .lst [b]] st = .ok .non st := by
  have f1 := forL_inv (g := gName 3) (b := L_check_days_0) (ds := List.replicate m (oDay n)) (I := fun _ env s => ∃ x, env = [some (.lst (List.replicate m (oDay n))), some (.lst ks), some (.lst [b]), x] ∧ s = st) (fun i d env s hd hI => by
    obtain ⟨x, rfl, rfl⟩ := hI
    have := List.eq_of_mem_replicate (List.mem_of_getElem? hd)
    subst this
    have e : L_check_days_0 [some (.lst (List.replicate m (oDay n))), some (.lst ks), some (.lst [b]), some (oDay n)] s = .ok (.nx [some (.lst (List.replicate m (oDay n))), some (.lst ks), some (.lst [b]), some (oDay n)]) s := by
      simp [L_check_days_0, attrD, pg, fldD, hk]
    exact ⟨_, _, _, rfl, e, _, rfl, rfl⟩) (env := [some (.lst (List.replicate m (oDay n))), some (.lst ks), some (.lst [b]), none]) (st := st) ⟨none, rfl, rfl⟩
  obtain ⟨env, st', e1, x, rfl, rfl⟩ := f1
  simp [F_check_days, B_check_days, List.replicate, e1]
theorem count_lots (n m : Nat) (st : Sto) : F_count_lots [.lst (List.replicate m (oDay n))] st = .ok (.int 1) st := by
  have f1 := fun x y => forL_inv (g := gName 3) (b := L_count_lots_0) (ds := List.replicate n (.tup [.int 0, .int 0])) (I := fun _ env s => ∃ y, env = [some (.lst (List.replicate m (oDay n))), some (.int 1), x, y] ∧ s = st) (fun i d env s hd hI => by
    obtain ⟨y, rfl, rfl⟩ := hI
    have := List.eq_of_mem_replicate (List.mem_of_getElem? hd)
    subst this
    have h1 : oIx (.tup [.int 0, .int 0]) (.int 1) = some (.int 0) := rfl
    have e : L_count_lots_0 [some (.lst (List.replicate m (oDay n))), some (.int 1), x, some (.tup [.int 0, .int 0])] s = .ok (.nx [some (.lst (List.replicate m (oDay n))), some (.int 1), x, some (.tup [.int 0, .int 0])]) s := by
      simp [L_count_lots_0, h1, oMul_r]
    exact ⟨_, _, _, rfl, e, _, rfl, rfl⟩) (env := [some (.lst (List.replicate m (oDay n))), some (.int 1), x, y]) (st := st) ⟨y, rfl, rfl⟩
  have f2 := forL_inv (g := gName 2) (b := L_count_lots_1) (ds := List.replicate m (oDay n)) (I := fun _ env s => ∃ x y, env = [some (.lst (List.replicate m (oDay n))), some (.int 1), x, y] ∧ s = st) (fun i d env s hd hI => by
    obtain ⟨x, y, rfl, rfl⟩ := hI
    have := List.eq_of_mem_replicate (List.mem_of_getElem? hd)
    subst this
    obtain ⟨env2, st2, e2, y2, rfl, rfl⟩ := f1 (some (oDay n)) y
    have e : L_count_lots_1 [some (.lst (List.replicate m (oDay n))), some (.int 1), some (oDay n), y] st2 = .ok (.nx [some (.lst (List.replicate m (oDay n))), some (.int 1), some (oDay n), y2]) st2 := by
      simp only [L_count_lots_1, sFor_ap, iAny_ap, eFld_ap, eVar_ap, List.getElem?_cons_zero, List.getElem?_cons_succ, bnd_ok]
      have h3 : attrD pg "Day" "orders" ["orders", "supplies"] [.tup (List.replicate n (.tup [.int 0, .int 0])), .tup [.int 1]] = some (.tup (List.replicate n (.tup [.int 0, .int 0]))) := by simp [attrD, pg, fldD]
      rw [h3]
      simp only [of_some, bnd_ok, st_ok]
      exact e2
    exact ⟨_, _, _, rfl, e, _, _, rfl, rfl⟩) (env := [some (.lst (List.replicate m (oDay n))), some (.int 1), none, none]) (st := st) ⟨none, none, rfl, rfl⟩
  obtain ⟨env, st', e1, x, y, rfl, rfl⟩ := f2
  simp [F_count_lots, B_count_lots, List.replicate, e1]
theorem gnds_rep (d : D) (h : d.gnd = true) : ∀ n, D.gnds (List.replicate n d) = true
  | 0 => rfl
  | n + 1 => by simp [List.replicate_succ, D.gnds, h, gnds_rep d h n]
theorem gnd_day (n : Nat) : (oDay n).gnd = true := by simp [D.gnd, D.gnds, gnds_rep]
abbrev oSheet (ks rs : List D) (m : Nat) (kerf : Int) (sg : D) : D := .obj "Sheet" ["kinds", "boards", "days", "rests", "kerf", "stages", "cut_cost"] [.tup ks, .tup [oBoard], .tup (List.replicate m (oDay ks.length)), .tup rs, .int kerf, sg, .int 0]
theorem mk_sheet (ks rs : List D) (m : Nat) (kerf : Int) (sg : D) (h1 : 1 ≤ ks.length ∧ ks.length ≤ 6) (h2 : 1 ≤ m ∧ m ≤ 3) (h3 : rs.length ≤ 3) (cs : List Nat) (ho : ∀ d ∈ ks ++ (oBoard :: rs), ∃ C fs xs, d = .obj C fs xs)
    (hm : (ks ++ (oBoard :: rs)).map nameD = cs.map fun c => D.str (letter c)) (hn : cs.Nodup) (gk : D.gnds ks = true) (gr : D.gnds rs = true) (hk : 0 ≤ kerf ∧ kerf ≤ 20) (hs : sg = .non ∨ ∃ s : Int, sg = .int s ∧ 1 ≤ s ∧ s ≤ 8) (st : Sto) :
    mkD "Sheet" F_init_Sheet [.lst ks, .lst [oBoard], .lst (List.replicate m (oDay ks.length)), .lst rs, .int kerf, sg, .int 0] st = .ok (oSheet ks rs m kerf sg) st := by
  have hlc := lcL_map (g := gName 8) (c := tYes) (e := C_init_Sheet_0) (env := [some (.ref st.length), some (.lst ks), some (.lst [oBoard]), some (.lst (List.replicate m (oDay ks.length))), some (.lst rs), some (.int kerf), some sg, some (.int 0), none]) (st := st ++ [.ins "Sheet" [] []]) (p := fun _ => true) (h := fun _ => .int 1) (List.replicate m (oDay ks.length)) [] (by simp; omega) (fun d hd => by
    have := List.eq_of_mem_replicate hd
    subst this
    exact ⟨_, rfl, fun acc => ⟨rfl, fun _ => ⟨by simp [C_init_Sheet_0, attrD, pg, fldD, cSum, D.int?], rfl⟩⟩⟩)
  rw [List.filter_eq_self.mpr (fun _ _ => rfl), List.map_replicate] at hlc
  have hsum : cSum [.lst (List.replicate m (.int 1))] = some (.int m) := by
    obtain rfl | rfl | rfl : m = 1 ∨ m = 2 ∨ m = 3 := by omega
    all_goals rfl
  have hsg : sg.gnd = true := by
    rcases hs with rfl | ⟨s, rfl, _⟩ <;> rfl
  have hnames := fun s : Sto => check_names (ks ++ (oBoard :: rs)) cs ho hm hn (by simp; omega) s
  have hday := gnds_rep (oDay ks.length) (gnd_day _) m
  have c1 := fun x st => check_many x ks 1 6 (by omega) st
  have c2 := fun x st => check_many x [oBoard] 1 4 (by decide) st
  have c3 := fun x st => check_many x (List.replicate m (oDay ks.length)) 1 3 (by simp; omega) st
  have c4 := fun x st => check_many x rs 0 3 (by omega) st
  have hml : (List.replicate m (.int 1 : D)).length ≤ 1000000 := by simp; omega
  have hlen : ks.length + (rs.length + 1) ≤ 1000000 := by omega
  have hm12 : ¬ (12 : Int) < m := by omega
  simp only [List.length_append, List.length_cons, List.length_nil, List.nil_append, List.append_assoc, List.cons_append] at hlc
  rcases hs with rfl | ⟨q, rfl, hq⟩
  · simp [mkD, F_init_Sheet, B_init_Sheet, List.replicate, c1, c2, c3, c4, hnames, check_days ks.length m ks oBoard rfl, in_range _ kerf 0 20 hk, in_range _ 0 0 1000000000 (by decide), count_lots, hlc, hsum, attrD, conD, pg, D.gnd, D.gnds, gk, gr, hday, hlen, hm12]
  · simp [mkD, F_init_Sheet, B_init_Sheet, List.replicate, c1, c2, c3, c4, hnames, check_days ks.length m ks oBoard rfl, in_range _ kerf 0 20 hk, in_range _ q 1 8 hq, in_range _ 0 0 1000000000 (by decide), count_lots, hlc, hsum, attrD, conD, pg, D.gnd, D.gnds, gk, gr, hday, hlen, hm12]
end K09

set_option Elab.async false
set_option linter.all false
set_option maxRecDepth 100000
set_option maxHeartbeats 1000000
namespace K09
open Cb
open PySem (Str)
def rows {α : Type} (f : Nat → α → D) : Nat → List α → List D
  | _, [] => []
  | k, x :: r => f k x :: rows f (k + 1) r
theorem rows_len {α : Type} (f : Nat → α → D) : ∀ (xs : List α) (k : Nat), (rows f k xs).length = xs.length
  | [], _ => rfl
  | x :: r, k => by rw [rows, List.length_cons, List.length_cons, rows_len f r]
theorem rows_snoc {α : Type} (f : Nat → α → D) : ∀ (xs : List α) (k : Nat) (y : α), rows f k (xs ++ [y]) = rows f k xs ++ [f (k + xs.length) y]
  | [], k, y => by simp [rows]
  | x :: r, k, y => by
    rw [List.cons_append, rows, rows, rows_snoc f r (k + 1) y, List.cons_append, List.length_cons]
    rw [show k + 1 + r.length = k + (r.length + 1) by omega]
theorem rows_get {α : Type} (f : Nat → α → D) : ∀ (xs : List α) (k i : Nat), (rows f k xs)[i]? = (xs[i]?).map (f (k + i))
  | [], _, _ => by simp [rows]
  | x :: r, k, 0 => by simp [rows]
  | x :: r, k, i + 1 => by
    rw [rows, List.getElem?_cons_succ, List.getElem?_cons_succ, rows_get f r (k + 1) i]
    rw [show k + 1 + i = k + (i + 1) by omega]
theorem rows_gnds {α : Type} (f : Nat → α → D) (h : ∀ k x, (f k x).gnd = true) : ∀ (xs : List α) (k : Nat), D.gnds (rows f k xs) = true
  | [], _ => rfl
  | x :: r, k => by simp [rows, D.gnds, h, rows_gnds f h r]
abbrev KS : Type := Int × Int × Bool
abbrev RS' : Type := Int × Int
abbrev kRow (i : Nat) (x : KS) : D := .lst [.str (letter (97 + i)), .int x.1, .int x.2.1, .bl x.2.2]
abbrev rRow (i : Nat) (x : RS') : D := .lst [.str (letter (114 + i)), .int x.1, .int x.2]
def KOk (x : KS) : Prop := (1 ≤ x.1 ∧ x.1 ≤ 5) ∧ 1 ≤ x.2.1 ∧ x.2.1 ≤ 4
def ROk (x : RS') : Prop := (1 ≤ x.1 ∧ x.1 ≤ 5) ∧ 1 ≤ x.2 ∧ x.2 ≤ 4
theorem abc (k : Nat) (h : k < 6) : oIx (.str (Str.ofString "abcdef")) (.int (k : Int)) = some (.str (letter (97 + k))) := by
  have e : Str.ofString "abcdef" = ⟨#[97, 98, 99, 100, 101, 102]⟩ := by decide +kernel
  rw [e]
  have : k = 0 ∨ k = 1 ∨ k = 2 ∨ k = 3 ∨ k = 4 ∨ k = 5 := by omega
  rcases this with rfl | rfl | rfl | rfl | rfl | rfl <;> rfl
theorem rst (k : Nat) (h : k < 3) : oIx (.str (Str.ofString "rst")) (.int (k : Int)) = some (.str (letter (114 + k))) := by
  have e : Str.ofString "rst" = ⟨#[114, 115, 116]⟩ := by decide +kernel
  rw [e]
  have : k = 0 ∨ k = 1 ∨ k = 2 := by omega
  rcases this with rfl | rfl | rfl <;> rfl
theorem rg_at {a : Int} {i : Nat} {d : D} (h : (rgD 0 a)[i]? = some d) : d = .int (i : Nat) ∧ (i : Int) < a := by
  have hi : i < a.toNat := by simpa [rgD] using (List.getElem?_eq_some_iff.mp h).1
  have : (rgD 0 a)[i]? = some (.int (i : Nat)) := by simp [rgD, hi]
  rw [this] at h
  exact ⟨(Option.some.inj h).symm, by omega⟩
theorem rg_len (a : Int) : (rgD 0 a).length = a.toNat := by simp [rgD]
theorem oAdd_lst (xs ys : List D) (h : xs.length + ys.length ≤ 1000000) : oAdd (.lst xs) (.lst ys) = some (.lst (xs ++ ys)) := by simp [oAdd, h]
theorem oAdd_tup (xs ys : List D) (h : xs.length + ys.length ≤ 1000000) : oAdd (.tup xs) (.tup ys) = some (.tup (xs ++ ys)) := by simp [oAdd, h]
theorem fk (many sg : D) (a N : Int) (ha : a ≤ 6) : ∃ (ks : List KS) (N' : Int) (x y : Option D), forL (gName 4) L__law_drawn_0 (rgD 0 a) [some (.ref 0), some many, some sg, some (.ref 1), none, none, none] [.lst [.int N], .lst []] =
    .ok (.nx [some (.ref 0), some many, some sg, some (.ref 1), x, none, y]) [.lst [.int N'], .lst (rows kRow 0 ks)] ∧ ks.length = a.toNat ∧ ∀ k ∈ ks, KOk k := by
  have f1 := forL_inv (g := gName 4) (b := L__law_drawn_0) (ds := rgD 0 a) (I := fun i env s => ∃ (ks : List KS) (N' : Int) (x y : Option D), env = [some (.ref 0), some many, some sg, some (.ref 1), x, none, y] ∧ s = [.lst [.int N'], .lst (rows kRow 0 ks)] ∧ ks.length = i ∧ ∀ k ∈ ks, KOk k) (fun i d env s hd hI => by
    obtain ⟨ks, n, x, y, rfl, rfl, hl, hk⟩ := hI
    obtain ⟨rfl, hi⟩ := rg_at hd
    have d1 := draw n 5 [.lst (rows kRow 0 ks)] (by decide) (by decide)
    have d2 := draw (n / 5) 4 [.lst (rows kRow 0 ks)] (by decide) (by decide)
    have d3 := draw (n / 5 / 4) 2 [.lst (rows kRow 0 ks)] (by decide) (by decide)
    have b1 := draw_lt n (m := 5) (by decide)
    have b2 := draw_lt (n / 5) (m := 4) (by decide)
    have hlen : (rows kRow 0 ks).length < 1000000 := by rw [rows_len]; omega
    have e : L__law_drawn_0 [some (.ref 0), some many, some sg, some (.ref 1), some (.int (i : Nat)), none, y] [.lst [.int n], .lst (rows kRow 0 ks)] =
        .ok (.nx [some (.ref 0), some many, some sg, some (.ref 1), some (.int (i : Nat)), none, some (.lst [.int (1 + n % 5), .int (1 + n / 5 % 4)])]) [.lst [.int (n / 5 / 4 / 2)], .lst (rows kRow 0 (ks ++ [(1 + n % 5, 1 + n / 5 % 4, n / 5 / 4 % 2 == 1)]))] := by
      rw [rows_snoc, hl]
      simp [L__law_drawn_0, d1, d2, d3, abc i (by omega), oAdd_lst, D.gnd, D.gnds, hlen]
    refine ⟨_, _, _, rfl, e, _, _, _, _, rfl, rfl, by simp [hl], fun k hk2 => ?_⟩
    rcases List.mem_append.mp hk2 with h | h
    · exact hk k h
    · rw [List.mem_singleton.mp h]
      exact ⟨⟨by dsimp only; omega, by dsimp only; omega⟩, by dsimp only; omega, by dsimp only; omega⟩) (env := [some (.ref 0), some many, some sg, some (.ref 1), none, none, none]) (st := [.lst [.int N], .lst []]) ⟨[], N, none, none, rfl, rfl, rfl, fun k h => by cases h⟩
  obtain ⟨env, st, e, ks, N', x, y, rfl, rfl, hl, hk⟩ := f1
  exact ⟨ks, N', x, y, e, by rw [hl, rg_len], hk⟩
theorem fr (many sg ka : D) (x0 y0 : Option D) (a N : Int) (ha : a ≤ 3) : ∃ (rs : List RS') (N' : Int) (x : Option D), forL (gName 4) L__law_drawn_1 (rgD 0 a) [some (.ref 0), some many, some sg, some ka, x0, some (.ref 2), y0] [.lst [.int N], .dead, .lst []] =
    .ok (.nx [some (.ref 0), some many, some sg, some ka, x, some (.ref 2), y0]) [.lst [.int N'], .dead, .lst (rows rRow 0 rs)] ∧ rs.length = a.toNat ∧ ∀ k ∈ rs, ROk k := by
  have f1 := forL_inv (g := gName 4) (b := L__law_drawn_1) (ds := rgD 0 a) (I := fun i env s => ∃ (rs : List RS') (N' : Int) (x : Option D), env = [some (.ref 0), some many, some sg, some ka, x, some (.ref 2), y0] ∧ s = [.lst [.int N'], .dead, .lst (rows rRow 0 rs)] ∧ rs.length = i ∧ ∀ k ∈ rs, ROk k) (fun i d env s hd hI => by
    obtain ⟨rs, n, x, rfl, rfl, hl, hk⟩ := hI
    obtain ⟨rfl, hi⟩ := rg_at hd
    have d1 := draw n 5 [.dead, .lst (rows rRow 0 rs)] (by decide) (by decide)
    have d2 := draw (n / 5) 4 [.dead, .lst (rows rRow 0 rs)] (by decide) (by decide)
    have b1 := draw_lt n (m := 5) (by decide)
    have b2 := draw_lt (n / 5) (m := 4) (by decide)
    have hlen : (rows rRow 0 rs).length < 1000000 := by rw [rows_len]; omega
    have e : L__law_drawn_1 [some (.ref 0), some many, some sg, some ka, some (.int (i : Nat)), some (.ref 2), y0] [.lst [.int n], .dead, .lst (rows rRow 0 rs)] =
        .ok (.nx [some (.ref 0), some many, some sg, some ka, some (.int (i : Nat)), some (.ref 2), y0]) [.lst [.int (n / 5 / 4)], .dead, .lst (rows rRow 0 (rs ++ [(1 + n % 5, 1 + n / 5 % 4)]))] := by
      rw [rows_snoc, hl]
      simp [L__law_drawn_1, d1, d2, rst i (by omega), D.gnd, D.gnds, hlen]
    refine ⟨_, _, _, rfl, e, _, _, _, rfl, rfl, by simp [hl], fun k hk2 => ?_⟩
    rcases List.mem_append.mp hk2 with h | h
    · exact hk k h
    · rw [List.mem_singleton.mp h]
      exact ⟨⟨by dsimp only; omega, by dsimp only; omega⟩, by dsimp only; omega, by dsimp only; omega⟩) (env := [some (.ref 0), some many, some sg, some ka, x0, some (.ref 2), y0]) (st := [.lst [.int N], .dead, .lst []]) ⟨[], N, x0, rfl, rfl, rfl, fun k h => by cases h⟩
  obtain ⟨env, st, e, rs, N', x, rfl, rfl, hl, hk⟩ := f1
  exact ⟨rs, N', x, e, by rw [hl, rg_len], hk⟩
/-- what is drawn -/
structure Dr where
  ks : List KS
  rs : List RS'
  m : Nat
  sg : D
  kerf : Int
structure Dr.Ok (d : Dr) : Prop where
  k : 1 ≤ d.ks.length ∧ d.ks.length ≤ 6
  r : d.rs.length ≤ 3
  m : 1 ≤ d.m ∧ d.m ≤ 3
  sg : d.sg = .non ∨ ∃ s : Int, d.sg = .int s ∧ 1 ≤ s ∧ s ≤ 8
  kerf : 0 ≤ d.kerf ∧ d.kerf ≤ 2
  ks : ∀ k ∈ d.ks, KOk k
  rs : ∀ k ∈ d.rs, ROk k
def Dr.d (d : Dr) : D := .lst [.lst (rows kRow 0 d.ks), .lst (rows rRow 0 d.rs), .int d.m, d.sg, .int d.kerf]
theorem drawn (N : Int) : ∃ (d : Dr) (N' : Int), F__law_drawn [.ref 0] [.lst [.int N]] = .ok d.d [.lst [.int N']] ∧ d.Ok := by
  have dr := fun (n m : Int) (h : 0 < m) (h2 : m < 2 ^ 64) => draw n m [] h h2
  have d1 := dr N 3 (by decide) (by decide)
  have d2 := dr (N / 3) 4 (by decide) (by decide)
  have d3 := dr (N / 3 / 4) 3 (by decide) (by decide)
  have d4 := dr (N / 3 / 4 / 3) 8 (by decide) (by decide)
  have d5 := dr (N / 3 / 4 / 3 / 8) 4 (by decide) (by decide)
  have b1 := draw_lt N (m := 3) (by decide)
  have b2 := draw_lt (N / 3) (m := 4) (by decide)
  have b3 := draw_lt (N / 3 / 4) (m := 3) (by decide)
  have b5 := draw_lt (N / 3 / 4 / 3 / 8) (m := 4) (by decide)
  generalize hN5 : N / 3 / 4 / 3 / 8 / 4 = N5 at *
  obtain ⟨sg, hsg, hsgo⟩ : ∃ sg, oIx (.lst [.non, .int 1, .int 2, .int 8]) (.int (N / 3 / 4 / 3 / 8 % 4)) = some sg ∧ (sg = .non ∨ ∃ s : Int, sg = .int s ∧ 1 ≤ s ∧ s ≤ 8) := by
    generalize N / 3 / 4 / 3 / 8 % 4 = q at b5
    have : q = 0 ∨ q = 1 ∨ q = 2 ∨ q = 3 := by omega
    rcases this with rfl | rfl | rfl | rfl
    · exact ⟨.non, rfl, .inl rfl⟩
    · exact ⟨.int 1, rfl, .inr ⟨1, rfl, by decide⟩⟩
    · exact ⟨.int 2, rfl, .inr ⟨2, rfl, by decide⟩⟩
    · exact ⟨.int 8, rfl, .inr ⟨8, rfl, by decide⟩⟩
  have hsgg : sg.gnd = true := by rcases hsgo with rfl | ⟨s, rfl, _⟩ <;> rfl
  have go : ∀ a b c : Int, (1 ≤ a ∧ a ≤ 6) → (0 ≤ b ∧ b ≤ 3) → (1 ≤ c ∧ c ≤ 3) → (∃ (d : Dr) (N' : Int), (N / 3 / 4 / 3 % 8 = 1 → a = 6 ∧ b = 3 ∧ c = 3) → (¬ N / 3 / 4 / 3 % 8 = 1 → a = 1 + N % 3 ∧ b = N / 3 % 4 ∧ c = 1 + N / 3 / 4 % 3) → F__law_drawn [.ref 0] [.lst [.int N]] = .ok d.d [.lst [.int N']] ∧ d.Ok) := by
    intro a b c ha hb hc
    have i0 : oIx (.lst [.int a, .int b, .int c]) (.int 0) = some (.int a) := rfl
    have i1 : oIx (.lst [.int a, .int b, .int c]) (.int 1) = some (.int b) := rfl
    have i2 : oIx (.lst [.int a, .int b, .int c]) (.int 2) = some (.int c) := rfl
    obtain ⟨ks, N6, x6, y6, e6, l6, o6⟩ := fk (.lst [.int a, .int b, .int c]) sg a N5 ha.2
    obtain ⟨rs, N7, x7, e7, l7, o7⟩ := fr (.lst [.int a, .int b, .int c]) sg (.lst (rows kRow 0 ks)) x6 y6 b N6 hb.2
    have d7 := draw N7 3 [.dead, .dead] (by decide) (by decide)
    have b7 := draw_lt N7 (m := 3) (by decide)
    have g1 : D.gnds (rows kRow 0 ks) = true := rows_gnds _ (fun k x => by simp [D.gnd, D.gnds]) ks 0
    have g2 : D.gnds (rows rRow 0 rs) = true := rows_gnds _ (fun k x => by simp [D.gnd, D.gnds]) rs 0
    refine ⟨⟨ks, rs, c.toNat, sg, N7 % 3⟩, N7 / 3, fun h1 h2 => ⟨?_, ⟨by dsimp only; omega, by dsimp only; omega⟩, by dsimp only; omega, ⟨by dsimp only; omega, by dsimp only; omega⟩, hsgo, ⟨by dsimp only; omega, by dsimp only; omega⟩, o6, o7⟩⟩
    have hcc : ((c.toNat : Nat) : Int) = c := by omega
    by_cases h8 : N / 3 / 4 / 3 % 8 = 1
    · obtain ⟨rfl, rfl, rfl⟩ := h1 h8
      simp [F__law_drawn, B__law_drawn, List.replicate, d1, d2, d3, d4, d5, h8, hsg, i0, i1, i2, hN5, D.gnds, e6, e7, d7, finR, D.gnd, g1, g2, hsgg, Dr.d]
    · obtain ⟨rfl, rfl, rfl⟩ := h2 h8
      have k1 : (-1000000 : Int) ≤ 1 + N % 3 ∧ 1 + N % 3 ≤ 1000000 := by omega
      have k2 : (-1000000 : Int) ≤ N / 3 % 4 ∧ N / 3 % 4 ≤ 1000000 := by omega
      simp [F__law_drawn, B__law_drawn, List.replicate, d1, d2, d3, d4, d5, h8, hsg, i0, i1, i2, hN5, D.gnds, k1, k2, e6, e7, d7, finR, D.gnd, g1, g2, hsgg, Dr.d, hcc]
  by_cases h8 : N / 3 / 4 / 3 % 8 = 1
  · obtain ⟨d, N', h⟩ := go 6 3 3 (by decide) (by decide) (by decide)
    exact ⟨d, N', h (fun _ => ⟨rfl, rfl, rfl⟩) (fun z => absurd h8 z)⟩
  · obtain ⟨d, N', h⟩ := go (1 + N % 3) (N / 3 % 4) (1 + N / 3 / 4 % 3) (by omega) (by omega) (by omega)
    exact ⟨d, N', h (fun z => absurd z h8) (fun _ => ⟨rfl, rfl, rfl⟩)⟩
end K09

set_option Elab.async false
set_option linter.all false
set_option maxRecDepth 100000
set_option maxHeartbeats 1000000
namespace K09
open Cb
open PySem (Str)
theorem rows_mem {α : Type} (f : Nat → α → D) {d : D} : ∀ {xs : List α} {k : Nat}, d ∈ rows f k xs → ∃ i x, i < xs.length ∧ xs[i]? = some x ∧ d = f (k + i) x
  | [], _, h => by cases h
  | x :: r, k, h => by
    rcases List.mem_cons.mp h with rfl | h
    · exact ⟨0, x, by simp, rfl, rfl⟩
    · obtain ⟨i, y, h1, h2, h3⟩ := rows_mem f h
      exact ⟨i + 1, y, by simp; omega, by simpa using h2, by rw [h3, show k + 1 + i = k + (i + 1) by omega]⟩
theorem rows_map {α : Type} (f g : Nat → α → D) (h : D → D) (e : ∀ k x, h (f k x) = g k x) : ∀ (xs : List α) (k : Nat), (rows f k xs).map h = rows g k xs
  | [], _ => rfl
  | x :: r, k => by rw [rows, List.map_cons, e, rows_map f g h e r, rows]
abbrev kObj (i : Nat) (x : KS) : D := oKind (97 + i) x.1 x.2.1 0 x.2.2
abbrev rObj (i : Nat) (x : RS') : D := oRest (114 + i) x.1 x.2 0
def hK : D → D
  | .lst [.str s, .int l, .int w, .bl t] => .obj "Kind" ["name", "length", "width", "price", "turns"] [.str s, .int l, .int w, .int 0, .bl t]
  | d => d
def hR : D → D
  | .lst [.str s, .int l, .int w] => .obj "Rest" ["name", "length", "width", "cost"] [.str s, .int l, .int w, .int 0]
  | d => d
def Dr.sheet (d : Dr) : D := oSheet (rows kObj 0 d.ks) (rows rObj 0 d.rs) d.m d.kerf d.sg
def codes (a b : Nat) : List Nat := List.range' 97 a ++ (122 :: List.range' 114 b)
theorem names_rows {α : Type} (f : Nat → α → D) (c : Nat) (e : ∀ k x, nameD (f k x) = .str (letter (c + k))) : ∀ (xs : List α) (k : Nat), (rows f k xs).map nameD = (List.range' (c + k) xs.length).map fun c => D.str (letter c)
  | [], _ => rfl
  | x :: r, k => by
    rw [rows, List.map_cons, e, names_rows f c e r, List.length_cons, List.range'_succ, List.map_cons]
    rfl
theorem codes_nodup (a b : Nat) (ha : a ≤ 6) (hb : b ≤ 3) : (codes a b).Nodup := by
  unfold codes
  rw [List.nodup_append]
  refine ⟨List.nodup_range', ?_, fun x hx y hy => ?_⟩
  · rw [List.nodup_cons]
    refine ⟨fun h => ?_, List.nodup_range'⟩
    simp [List.mem_range'] at h
    omega
  · intro z
    subst z
    simp [List.mem_range'] at hx hy
    omega
theorem built (d : Dr) (h : d.Ok) (N : Int) : F__law_built [d.d] [.lst [.int N]] = .ok d.sheet [.lst [.int N]] := by
  obtain ⟨ks, rs, m, sg, kerf⟩ := d
  obtain ⟨hk, hr, hm, hsg, hkf, oks, ors⟩ := h
  dsimp only at hk hr hm hsg hkf oks ors
  have hd : (Dr.mk ks rs m sg kerf).d = .lst [.lst (rows kRow 0 ks), .lst (rows rRow 0 rs), .int m, sg, .int kerf] := rfl
  have hs : (Dr.mk ks rs m sg kerf).sheet = oSheet (rows kObj 0 ks) (rows rObj 0 rs) m kerf sg := rfl
  rw [hd, hs]
  generalize hdd : D.lst [.lst (rows kRow 0 ks), .lst (rows rRow 0 rs), .int m, sg, .int kerf] = dd
  have i0 : oIx dd (.int 0) = some (.lst (rows kRow 0 ks)) := by rw [← hdd]; rfl
  have i1 : oIx dd (.int 1) = some (.lst (rows rRow 0 rs)) := by rw [← hdd]; rfl
  have i2 : oIx dd (.int 2) = some (.int m) := by rw [← hdd]; rfl
  have i3 : oIx dd (.int 3) = some sg := by rw [← hdd]; rfl
  have i4 : oIx dd (.int 4) = some (.int kerf) := by rw [← hdd]; rfl
  have vd : ∀ st, view st dd = dd := fun st => by rw [← hdd]; rfl
  have lk := lcL_map (g := gName 6) (c := tYes) (e := C__law_built_0) (env := [some dd, none, none, none, none, none, none]) (st := [.lst [.int N]]) (p := fun _ => true) (h := hK) (rows kRow 0 ks) [] (by simp [rows_len]; omega) (fun x hx => by
    obtain ⟨i, k, hi, he, rfl⟩ := rows_mem _ hx
    obtain ⟨b1, b2⟩ := oks k (List.mem_of_getElem? he)
    rw [Nat.zero_add]
    refine ⟨_, rfl, fun acc => ⟨rfl, fun _ => ⟨?_, by simp [hK, D.gnd, D.gnds]⟩⟩⟩
    have j0 : oIx (kRow i k) (.int 0) = some (.str (letter (97 + i))) := rfl
    have j1 : oIx (kRow i k) (.int 1) = some (.int k.1) := rfl
    have j2 : oIx (kRow i k) (.int 2) = some (.int k.2.1) := rfl
    have j3 : oIx (kRow i k) (.int 3) = some (.bl k.2.2) := rfl
    simp only [C__law_built_0, eMake_ap, aCons_ap, aNil_ap, eB_ap, eVar_ap, eC_ap, List.set_cons_succ, List.set_cons_zero, List.getElem?_cons_zero, List.getElem?_cons_succ, bnd_ok, view_lst0, view_int, j0, j1, j2, j3, of_some, List.nil_append, List.cons_append]
    show mkD "Kind" F_init_Kind [.str (letter (97 + i)), .int k.1, .int k.2.1, .int 0, .bl k.2.2] _ = _
    rw [mk_kind (97 + i) k.1 k.2.1 0 k.2.2 (by omega) (by omega) (by omega) (by decide)]
    rfl)
  rw [List.filter_eq_self.mpr (fun _ _ => rfl), rows_map kRow kObj hK (fun _ _ => rfl)] at lk
  have lr := lcL_map (g := gName 6) (c := tYes) (e := C__law_built_1) (env := [some dd, some (.lst (rows kObj 0 ks)), none, none, none, none, none]) (st := [.lst [.int N]]) (p := fun _ => true) (h := hR) (rows rRow 0 rs) [] (by simp [rows_len]; omega) (fun x hx => by
    obtain ⟨i, k, hi, he, rfl⟩ := rows_mem _ hx
    obtain ⟨b1, b2⟩ := ors k (List.mem_of_getElem? he)
    rw [Nat.zero_add]
    refine ⟨_, rfl, fun acc => ⟨rfl, fun _ => ⟨?_, by simp [hR, D.gnd, D.gnds]⟩⟩⟩
    have j0 : oIx (rRow i k) (.int 0) = some (.str (letter (114 + i))) := rfl
    have j1 : oIx (rRow i k) (.int 1) = some (.int k.1) := rfl
    have j2 : oIx (rRow i k) (.int 2) = some (.int k.2) := rfl
    simp only [C__law_built_1, eMake_ap, aCons_ap, aNil_ap, eB_ap, eVar_ap, eC_ap, List.set_cons_succ, List.set_cons_zero, List.getElem?_cons_zero, List.getElem?_cons_succ, bnd_ok, view_lst0, view_int, j0, j1, j2, of_some, List.nil_append, List.cons_append]
    show mkD "Rest" F_init_Rest [.str (letter (114 + i)), .int k.1, .int k.2, .int 0] _ = _
    have hp : 1 ≤ k.1 * k.2 ∧ k.1 * k.2 ≤ 120 := by
      have q1 : 1 * 1 ≤ k.1 * k.2 := Int.mul_le_mul b1.1 b2.1 (by decide) (by omega)
      have q2 : k.1 * k.2 ≤ 5 * 4 := Int.mul_le_mul b1.2 b2.2 (by omega) (by decide)
      omega
    rw [mk_rest (114 + i) k.1 k.2 0 (by omega) (by omega) (by omega) (by decide) hp]
    rfl)
  rw [List.filter_eq_self.mpr (fun _ _ => rfl), rows_map rRow rObj hR (fun _ _ => rfl)] at lr
  have lkl : (rows kObj 0 ks).length = ks.length := rows_len _ _ _
  have f1 := forL_inv (g := gName 4) (b := L__law_built_0) (ds := rgD 0 m) (I := fun i env s => ∃ x, env = [some dd, some (.lst (rows kObj 0 ks)), some (.lst (rows rObj 0 rs)), some (.ref 1), x, none, none] ∧ s = [.lst [.int N], .lst (List.replicate i (oDay ks.length))]) (fun i x env s hd hI => by
    obtain ⟨y, rfl, rfl⟩ := hI
    obtain ⟨rfl, hi⟩ := rg_at hd
    have hrep : oMul (.lst [.tup [.int 0, .int 0]]) (.int ks.length) = some (.lst (List.replicate ks.length (.tup [.int 0, .int 0]))) := by
      have : (List.replicate ks.length [D.tup [.int 0, .int 0]]).flatten = List.replicate ks.length (.tup [.int 0, .int 0]) := by
        generalize ks.length = n
        induction n with
        | zero => rfl
        | succ n ih => rw [List.replicate_succ, List.flatten_cons, ih, List.replicate_succ]; rfl
      have c1 : (-1000000 : Int) ≤ ks.length := by omega
      have c2 : (ks.length : Int) ≤ 1000000 := by omega
      have c3 : ks.length ≤ 1000000 := by omega
      simp [oMul, c1, c2, c3, this]
    have e : L__law_built_0 [some dd, some (.lst (rows kObj 0 ks)), some (.lst (rows rObj 0 rs)), some (.ref 1), some (.int (i : Nat)), none, none] [.lst [.int N], .lst (List.replicate i (oDay ks.length))] =
        .ok (.nx [some dd, some (.lst (rows kObj 0 ks)), some (.lst (rows rObj 0 rs)), some (.ref 1), some (.int (i : Nat)), none, none]) [.lst [.int N], .lst (List.replicate (i + 1) (oDay ks.length))] := by
      have hi2 : i < 1000000 := by omega
      have mk := mk_day ks.length hk.2 [.lst [.int N], .lst (List.replicate i (oDay ks.length))]
      have hp : perm [0, 1] [D.lst (List.replicate ks.length (.tup [.int 0, .int 0])), .tup [.int 1]] = [D.lst (List.replicate ks.length (.tup [.int 0, .int 0])), .tup [.int 1]] := rfl
      simp [L__law_built_0, vd, i0, rows_len, hrep, hp, mk, gnd_day, hi2, List.replicate_succ']
    exact ⟨_, _, _, rfl, e, _, rfl, rfl⟩) (env := [some dd, some (.lst (rows kObj 0 ks)), some (.lst (rows rObj 0 rs)), some (.ref 1), none, none, none]) (st := [.lst [.int N], .lst []]) ⟨none, rfl, rfl⟩
  obtain ⟨env, st, e1, x, rfl, rfl⟩ := f1
  rw [rg_len] at e1
  have mt : (m : Int).toNat = m := by omega
  rw [mt] at e1
  have gk : D.gnds (rows kObj 0 ks) = true := rows_gnds _ (fun k x => by simp [D.gnd, D.gnds]) ks 0
  have gr : D.gnds (rows rObj 0 rs) = true := rows_gnds _ (fun k x => by simp [D.gnd, D.gnds]) rs 0
  have hz : nameD oBoard = .str (letter 122) := by
    have : (Str.ofString "z") = letter 122 := by decide +kernel
    simp [nameD, attrD, pg, fldD, this]
  have mks := mk_sheet (rows kObj 0 ks) (rows rObj 0 rs) m kerf sg (by rw [lkl]; exact hk) hm (by rw [rows_len]; exact hr) (codes ks.length rs.length) (fun d hd => by
    rcases List.mem_append.mp hd with h | h
    · obtain ⟨i, k, _, _, rfl⟩ := rows_mem _ h
      exact ⟨_, _, _, rfl⟩
    · rcases List.mem_cons.mp h with rfl | h
      · exact ⟨_, _, _, rfl⟩
      · obtain ⟨i, k, _, _, rfl⟩ := rows_mem _ h
        exact ⟨_, _, _, rfl⟩) (by
    rw [List.map_append, List.map_cons, names_rows kObj 97 (fun k x => by simp [nameD, attrD, pg, fldD]), names_rows rObj 114 (fun k x => by simp [nameD, attrD, pg, fldD]), hz]
    simp [codes]) (codes_nodup _ _ hk.2 hr) gk gr (by omega) hsg
  rw [lkl] at mks
  have hmr : (-1000000 : Int) ≤ m ∧ (m : Int) ≤ 1000000 := by omega
  have hp1 : perm [0, 1, 2, 3, 4, 5] [D.str (Str.ofString "z"), .int 2, .int 2, .int 0, .int 0, .tup []] = [D.str (Str.ofString "z"), .int 2, .int 2, .int 0, .int 0, .tup []] := rfl
  have hp2 : ∀ a b c d e f g : D, perm [0, 1, 2, 4, 5, 6, 3] [a, b, c, d, e, f, g] = [a, b, c, e, f, g, d] := fun _ _ _ _ _ _ _ => rfl
  have gs : (oSheet (rows kObj 0 ks) (rows rObj 0 rs) m kerf sg).gnd = true := by
    have : sg.gnd = true := by rcases hsg with rfl | ⟨s, rfl, _⟩ <;> rfl
    simp [D.gnd, D.gnds, gk, gr, gnds_rep, gnd_day, this]
  simp only [List.length_cons, List.length_nil, List.nil_append, List.cons_append] at lk lr
  simp [F__law_built, B__law_built, List.replicate, vd, i0, i1, i2, i3, i4, lk, lr, D.gnds, hmr, e1, hp1, mk_board, hp2, mks, finR_gnd gs]
end K09

set_option Elab.async false
set_option linter.all false
set_option maxRecDepth 100000
set_option maxHeartbeats 1000000
namespace K09
open Cb
open PySem (Str)
abbrev pr (q : Int × Int) : D := .tup [.int q.1, .int q.2]
theorem ne_pr (a b c d : Int) : ∃ q, oNe (.tup [.int a, .int b]) (.tup [.int c, .int d]) = some (.bl q) := ⟨!(D.eqv (.tup [.int a, .int b]) (.tup [.int c, .int d])), by
  unfold oNe
  rw [if_pos ⟨by simp [D.plain, D.plains], by simp [D.plain, D.plains]⟩]⟩
theorem ints_mapM (ns : List Int) : (ns.map D.int).mapM D.int? = some ns := by
  induction ns with
  | nil => rfl
  | cons i r ih => rw [List.map_cons, List.mapM_cons, ih]; rfl
theorem insI_len (x : Int) : ∀ ys : List Int, (insI x ys).length = ys.length + 1
  | [] => rfl
  | y :: ys => by
    unfold insI
    split
    · rfl
    · rw [List.length_cons, insI_len x ys, List.length_cons]
theorem sortI_len : ∀ xs : List Int, (sortI xs).length = xs.length
  | [] => rfl
  | x :: xs => by rw [sortI, insI_len, sortI_len xs, List.length_cons]
theorem gnds_pr (qs : List (Int × Int)) : D.gnds (qs.map pr) = true := by
  induction qs with
  | nil => rfl
  | cons q r ih => simp [D.gnds, D.gnd, ih]
def keyD : D → D
  | .tup [.int a, .int b] => .int (a * 100 + b)
  | d => d
theorem ascending (qs : List (Int × Int)) (hl : qs.length ≤ 5) (st : Sto) : ∃ rs : List (Int × Int), F__law_ascending [.lst (qs.map pr)] st = .ok (.tup (rs.map pr)) st ∧ rs.length ≤ 5 := by
  have lk := lcL_map (g := gName 3) (c := tYes) (e := C__law_ascending_0) (env := [some (.lst (qs.map pr)), some (.ref st.length), none, none]) (st := st ++ [.lst []]) (p := fun _ => true) (h := keyD) (qs.map pr) [] (by simp; omega) (fun x hx => by
    obtain ⟨q, _, rfl⟩ := List.mem_map.mp hx
    refine ⟨_, rfl, fun acc => ⟨rfl, fun _ => ⟨?_, rfl⟩⟩⟩
    have j0 : oIx (pr q) (.int 0) = some (.int q.1) := rfl
    have j1 : oIx (pr q) (.int 1) = some (.int q.2) := rfl
    have e : keyD (pr q) = .int (q.1 * 100 + q.2) := rfl
    rw [e]
    simp [C__law_ascending_0, j0, j1, oMul_r])
  have hm : (qs.map pr).map keyD = (qs.map fun q => q.1 * 100 + q.2).map D.int := by
    rw [List.map_map, List.map_map]
    rfl
  rw [List.filter_eq_self.mpr (fun _ _ => rfl), hm] at lk
  generalize hns : (qs.map fun q => q.1 * 100 + q.2) = ns at lk
  have hnl : ns.length = qs.length := by rw [← hns]; simp
  have hsort : cSorted [.lst (ns.map D.int)] = some (.lst ((sortI ns).map D.int)) := by
    have : ns.length ≤ 1000000 := by omega
    show ((ns.map D.int).mapM D.int?).bind _ = _
    rw [ints_mapM]
    simp [this]
  have hsl : (sortI ns).length ≤ 5 := by rw [sortI_len]; omega
  have f1 := forL_inv (g := gName 2) (b := L__law_ascending_0) (ds := (sortI ns).map D.int) (I := fun i env s => ∃ (rs : List (Int × Int)) (x y : Option D), env = [some (.lst (qs.map pr)), some (.ref st.length), x, y] ∧ s = st ++ [.lst (rs.map pr)] ∧ rs.length ≤ i) (fun i d env s hd hI => by
    obtain ⟨rs, x, y, rfl, rfl, hr⟩ := hI
    obtain ⟨c, rfl⟩ := getI hd
    have hi : i < 5 := by
      have := (List.getElem?_eq_some_iff.mp hd).1
      simp at this
      omega
    have v1 : view (st ++ [SO.lst (rs.map pr)]) (.ref st.length) = .lst (rs.map pr) := view_ref (by simp)
    have hlt : rs.length < 1000000 := by omega
    cases hrs : rs with
    | nil =>
      subst hrs
      have e : L__law_ascending_0 [some (.lst (qs.map pr)), some (.ref st.length), some (.int c), y] (st ++ [.lst (([] : List (Int × Int)).map pr)]) = .ok (.nx [some (.lst (qs.map pr)), some (.ref st.length), some (.int c), some (pr (c / 100, c % 100))]) (st ++ [.lst ([(c / 100, c % 100)].map pr)]) := by
        simp at v1
        simp [L__law_ascending_0, v1, oDiv_pos c 100 (by decide) (by decide), oMod_pos c 100 (by decide), D.gnd, D.gnds]
      exact ⟨_, _, _, rfl, e, [(c / 100, c % 100)], _, _, rfl, rfl, by simp⟩
    | cons r0 rr =>
      have hne : rs ≠ [] := by rw [hrs]; simp
      rw [← hrs]
      have hlast : ∃ a b, oIx (.lst (rs.map pr)) (.int (-1)) = some (.tup [.int a, .int b]) := by
        have hpos : 0 < rs.length := List.length_pos_iff.mpr hne
        refine ⟨(rs[rs.length - 1]'(by omega)).1, (rs[rs.length - 1]'(by omega)).2, ?_⟩
        have hix : ixD (rs.map pr).length (-1) = some (rs.length - 1) := by
          unfold ixD
          rw [if_neg (by decide), if_pos (by simp; omega)]
          congr 1
          simp
          omega
        show ((ixD (rs.map pr).length (-1)).bind fun j => (rs.map pr)[j]?) = _
        rw [hix]
        simp [List.getElem?_eq_getElem (show rs.length - 1 < rs.length by omega)]
      obtain ⟨a, b, hlast⟩ := hlast
      obtain ⟨q, hq⟩ := ne_pr a b (c / 100) (c % 100)
      have hz : ¬ rs.length = 0 := by
        intro z
        exact hne (List.length_eq_zero_iff.mp z)
      cases q with
      | true =>
        have e : L__law_ascending_0 [some (.lst (qs.map pr)), some (.ref st.length), some (.int c), y] (st ++ [.lst (rs.map pr)]) = .ok (.nx [some (.lst (qs.map pr)), some (.ref st.length), some (.int c), some (pr (c / 100, c % 100))]) (st ++ [.lst ((rs ++ [(c / 100, c % 100)]).map pr)]) := by
          simp [L__law_ascending_0, v1, oDiv_pos c 100 (by decide) (by decide), oMod_pos c 100 (by decide), hz, hlast, hq, D.gnd, D.gnds, hlt, hne]
        exact ⟨_, _, _, rfl, e, rs ++ [(c / 100, c % 100)], _, _, rfl, rfl, by simp; omega⟩
      | false =>
        have e : L__law_ascending_0 [some (.lst (qs.map pr)), some (.ref st.length), some (.int c), y] (st ++ [.lst (rs.map pr)]) = .ok (.nx [some (.lst (qs.map pr)), some (.ref st.length), some (.int c), some (pr (c / 100, c % 100))]) (st ++ [.lst (rs.map pr)]) := by
          simp [L__law_ascending_0, v1, oDiv_pos c 100 (by decide) (by decide), oMod_pos c 100 (by decide), hz, hlast, hq, hne]
        exact ⟨_, _, _, rfl, e, rs, _, _, rfl, rfl, by omega⟩) (env := [some (.lst (qs.map pr)), some (.ref st.length), none, none]) (st := st ++ [.lst []]) ⟨[], none, none, rfl, rfl, by simp⟩
  obtain ⟨env, s2, e1, rs, x, y, rfl, rfl, hr⟩ := f1
  refine ⟨rs, ?_, by simp at hr; omega⟩
  have gr := gnds_pr rs
  simp only [List.length_append, List.length_cons, List.length_nil, List.nil_append, List.append_assoc, List.cons_append] at lk
  have lk' : lcL (gName 3) tYes C__law_ascending_0 (st.length + 1) (qs.map pr) [some (.lst (qs.map pr)), some (.ref st.length), none, none] (st ++ [SO.lst [], SO.lst []]) = .ok (ns.map D.int) (st ++ [SO.lst [], SO.lst (ns.map D.int)]) := lk
  simp [F__law_ascending, B__law_ascending, List.replicate, D.gnds, lk', hsort, e1, finR, D.gnd, gr]
theorem part_state (N : Int) (m sg : D) (J : Sto) (hs : sg = .non ∨ ∃ s : Int, sg = .int s ∧ 1 ≤ s ∧ s ≤ 8) : ∃ (a b N' : Int) (x : Option D), I__law_part_1 [some (.ref 0), some m, some sg, some (.tup [.int (-1), .int 0]), none, none, none, none, none, none, none] (.lst [.int N] :: J) =
    .ok (.nx [some (.ref 0), some m, some sg, some (.tup [.int a, .int b]), none, none, none, none, none, x, none]) (.lst [.int N'] :: J) ∧ -1 ≤ a := by
  rcases hs with rfl | ⟨s, rfl, h1, h2⟩
  · exact ⟨-1, 0, N, none, by simp [I__law_part_1], by decide⟩
  · have d1 := draw N (s + 1) J (by omega) (by omega)
    have d2 := draw (N / (s + 1)) 3 J (by decide) (by decide)
    have b1 := draw_lt N (m := s + 1) (by omega)
    have b2 := draw_lt (N / (s + 1)) (m := 3) (by decide)
    obtain ⟨l, hl, hl0⟩ : ∃ l : Int, oIx (.lst [.int 0, .int s, .int (N % (s + 1))]) (.int (N / (s + 1) % 3)) = some (.int l) ∧ 0 ≤ l := by
      generalize N / (s + 1) % 3 = q at b2
      have : q = 0 ∨ q = 1 ∨ q = 2 := by omega
      rcases this with rfl | rfl | rfl
      · exact ⟨0, rfl, by decide⟩
      · exact ⟨s, rfl, by omega⟩
      · exact ⟨_, rfl, b1.1⟩
    have d3 := draw (N / (s + 1) / 3) 2 J (by decide) (by decide)
    by_cases hlt : l < s
    · exact ⟨l, 1 + N / (s + 1) / 3 % 2, N / (s + 1) / 3 / 2, some (.int l), by simp [I__law_part_1, I__law_part_0, d1, d2, hl, hlt, d3], by omega⟩
    · exact ⟨l, 0, N / (s + 1) / 3, some (.int l), by simp [I__law_part_1, I__law_part_0, d1, d2, hl, hlt], by omega⟩
theorem part_sides (q l w : Int) (hq : 0 ≤ q ∧ q < 8) (h : (1 ≤ l ∧ l ≤ 8) ∧ 1 ≤ w ∧ w ≤ 8) (e0 e1 e2 e3 : Option D) (x : Option D) (st : Sto) : ∃ l' w' : Int, I__law_part_2 [e0, e1, e2, e3, some (.int q), some (.lst [.int l, .int w]), none, none, none, x, none] st =
    .ok (.nx [e0, e1, e2, e3, some (.int q), some (.lst [.int l', .int w']), none, none, none, x, none]) st ∧ (1 ≤ l' ∧ l' ≤ 60) ∧ 1 ≤ w' ∧ w' ≤ 60 := by
  by_cases h5 : 5 < q
  · have : q = 6 ∨ q = 7 := by omega
    rcases this with rfl | rfl
    · have i : oIx (.lst [.lst [.int 12, .int 10], .lst [.int 60, .int 2]]) (.int 0) = some (.lst [.int 12, .int 10]) := rfl
      exact ⟨12, 10, by simp [I__law_part_2, i], by decide, by decide⟩
    · have i : oIx (.lst [.lst [.int 12, .int 10], .lst [.int 60, .int 2]]) (.int 1) = some (.lst [.int 60, .int 2]) := rfl
      exact ⟨60, 2, by simp [I__law_part_2, i], by decide, by decide⟩
  · exact ⟨l, w, by simp [I__law_part_2, h5], by omega, by omega⟩
theorem part_cells (N l w : Int) (hl : 1 ≤ l ∧ l ≤ 60) (hw : 1 ≤ w ∧ w ≤ 60) (e1 e2 e3 e4 x : Option D) (J : Sto) : ∃ (qs : List (Int × Int)) (N' : Int) (y : Option D), I__law_part_3 [some (.ref 0), e1, e2, e3, e4, some (.lst [.int l, .int w]), some (.ref (J.length + 1)), none, none, x, none] (.lst [.int N] :: (J ++ [.lst []])) =
    .ok (.nx [some (.ref 0), e1, e2, e3, e4, some (.lst [.int l, .int w]), some (.ref (J.length + 1)), none, none, x, y]) (.lst [.int N'] :: (J ++ [.lst (qs.map pr)])) ∧ qs.length ≤ 5 := by
  have d1 := draw N 3 (J ++ [.lst []]) (by decide) (by decide)
  by_cases h1 : N % 3 = 1
  · have d2 := draw (N / 3) 3 (J ++ [.lst []]) (by decide) (by decide)
    have b2 := draw_lt (N / 3) (m := 3) (by decide)
    have f1 := forL_inv (g := gName 10) (b := L__law_part_0) (ds := rgD 0 (1 + N / 3 % 3)) (I := fun i env s => ∃ (qs : List (Int × Int)) (n : Int) (y : Option D), env = [some (.ref 0), e1, e2, e3, e4, some (.lst [.int l, .int w]), some (.ref (J.length + 1)), none, none, x, y] ∧ s = (.lst [.int n] :: (J ++ [.lst (qs.map pr)])) ∧ qs.length = i) (fun i d env s hd hI => by
      obtain ⟨qs, n, y, rfl, rfl, hq⟩ := hI
      obtain ⟨rfl, hi⟩ := rg_at hd
      have j0 : oIx (.lst [.int l, .int w]) (.int 0) = some (.int l) := rfl
      have j1 : oIx (.lst [.int l, .int w]) (.int 1) = some (.int w) := rfl
      have c1 := draw n l (J ++ [.lst (qs.map pr)]) (by omega) (by omega)
      have c2 := draw (n / l) w (J ++ [.lst (qs.map pr)]) (by omega) (by omega)
      have hlen : qs.length < 1000000 := by omega
      have e : L__law_part_0 [some (.ref 0), e1, e2, e3, e4, some (.lst [.int l, .int w]), some (.ref (J.length + 1)), none, none, x, some (.int (i : Nat))] (.lst [.int n] :: (J ++ [.lst (qs.map pr)])) =
          .ok (.nx [some (.ref 0), e1, e2, e3, e4, some (.lst [.int l, .int w]), some (.ref (J.length + 1)), none, none, x, some (.int (i : Nat))]) (.lst [.int (n / l / w)] :: (J ++ [.lst ((qs ++ [(n % l, n / l % w)]).map pr)])) := by
        simp [L__law_part_0, j0, j1, c1, c2, D.gnd, D.gnds, hlen]
      exact ⟨_, _, _, rfl, e, _, _, _, rfl, rfl, by simp [hq]⟩) (env := [some (.ref 0), e1, e2, e3, e4, some (.lst [.int l, .int w]), some (.ref (J.length + 1)), none, none, x, none]) (st := (.lst [.int (N / 3 / 3)] :: (J ++ [.lst []]))) ⟨[], _, none, rfl, rfl, rfl⟩
    obtain ⟨env, st, e, qs, n, y, rfl, rfl, hq⟩ := f1
    rw [rg_len] at hq
    have k1 : (-1000000 : Int) ≤ 1 + N / 3 % 3 ∧ 1 + N / 3 % 3 ≤ 1000000 := by omega
    exact ⟨qs, n, y, by simp [I__law_part_3, d1, h1, d2, k1, e], by omega⟩
  · exact ⟨[], N / 3, none, by simp [I__law_part_3, d1, h1], by simp⟩
abbrev pD (ps : List Int) : D := .tup (ps.map D.int)
@[simp] theorem set_last (J : Sto) (x y : SO) : (J ++ [x]).set J.length y = J ++ [y] := by simp
@[simp] theorem take_last (J : Sto) (x : SO) : (J ++ [x]).take J.length = J := by simp
theorem part (J : Sto) (N : Int) (m : Nat) (hm : 1 ≤ m ∧ m ≤ 3) (sg : D) (hs : sg = .non ∨ ∃ s : Int, sg = .int s ∧ 1 ≤ s ∧ s ≤ 8) : ∃ (p0 p1 p2 p3 p4 : Int) (rest : List Int) (N' : Int), F__law_part [.ref 0, .int m, sg] (.lst [.int N] :: J) = .ok (pD (p0 :: p1 :: p2 :: p3 :: p4 :: rest)) (.lst [.int N'] :: J) ∧
    (1 ≤ p1 ∧ p1 ≤ 60) ∧ (1 ≤ p2 ∧ p2 ≤ 60) ∧ -1 ≤ p3 ∧ rest.length ≤ 10 := by
  obtain ⟨a, b, N1, x1, e1, ha⟩ := part_state N (.int m) sg J hs
  have d2 := draw N1 8 J (by decide) (by decide)
  have b2 := draw_lt N1 (m := 8) (by decide)
  have d3 := draw (N1 / 8) 8 J (by decide) (by decide)
  have b3 := draw_lt (N1 / 8) (m := 8) (by decide)
  have d4 := draw (N1 / 8 / 8) 8 J (by decide) (by decide)
  have b4 := draw_lt (N1 / 8 / 8) (m := 8) (by decide)
  obtain ⟨l, w, e5, hl, hw⟩ := part_sides (N1 % 8) (1 + N1 / 8 % 8) (1 + N1 / 8 / 8 % 8) b2 (by omega) (some (.ref 0)) (some (.int m)) (some sg) (some (.tup [.int a, .int b])) x1 (.lst [.int (N1 / 8 / 8 / 8)] :: J)
  obtain ⟨qs, N6, y6, e6, hq⟩ := part_cells (N1 / 8 / 8 / 8) l w hl hw (some (.int m)) (some sg) (some (.tup [.int a, .int b])) (some (.int (N1 % 8))) x1 J
  have d7 := draw N6 m (J ++ [.dead]) (by omega) (by omega)
  obtain ⟨rs, e8, hr⟩ := ascending qs hq (.lst [.int (N6 / m)] :: (J ++ [.dead]))
  have j0 : oIx (.lst [.int l, .int w]) (.int 0) = some (.int l) := rfl
  have j1 : oIx (.lst [.int l, .int w]) (.int 1) = some (.int w) := rfl
  have f1 := forL_inv (g := gName 8) (b := L__law_part_1) (ds := rs.map pr) (I := fun i env s => ∃ (rest : List Int) (z : Option D), env = [some (.ref 0), some (.int m), some sg, some (.tup [.int a, .int b]), some (.int (N1 % 8)), some (.lst [.int l, .int w]), some (.lst (qs.map pr)), some (pD ((N6 % m) :: l :: w :: a :: b :: rest)), z, x1, y6] ∧ s = (.lst [.int (N6 / m)] :: (J ++ [.dead])) ∧ rest.length = 2 * i) (fun i d env s hd hI => by
    obtain ⟨rest, z, rfl, rfl, hrl⟩ := hI
    have hi : i < 5 := by
      have := (List.getElem?_eq_some_iff.mp hd).1
      simp at this
      omega
    obtain ⟨r, _, rfl⟩ : ∃ r, r ∈ rs ∧ d = pr r := by
      obtain ⟨r, h1, h2⟩ := List.mem_map.mp (List.mem_of_getElem? hd)
      exact ⟨r, h1, h2.symm⟩
    have hadd : oAdd (pD ((N6 % m) :: l :: w :: a :: b :: rest)) (pr r) = some (pD ((N6 % m) :: l :: w :: a :: b :: (rest ++ [r.1, r.2]))) := by
      rw [oAdd_tup _ _ (by simp; omega)]
      simp
    have e : L__law_part_1 [some (.ref 0), some (.int m), some sg, some (.tup [.int a, .int b]), some (.int (N1 % 8)), some (.lst [.int l, .int w]), some (.lst (qs.map pr)), some (pD ((N6 % m) :: l :: w :: a :: b :: rest)), some (pr r), x1, y6] (.lst [.int (N6 / m)] :: (J ++ [.dead])) =
        .ok (.nx [some (.ref 0), some (.int m), some sg, some (.tup [.int a, .int b]), some (.int (N1 % 8)), some (.lst [.int l, .int w]), some (.lst (qs.map pr)), some (pD ((N6 % m) :: l :: w :: a :: b :: (rest ++ [r.1, r.2]))), some (pr r), x1, y6]) (.lst [.int (N6 / m)] :: (J ++ [.dead])) := by
      simp only [L__law_part_1, sAsg_ap, eB_ap, eVar_ap, List.getElem?_cons_zero, List.getElem?_cons_succ, bnd_ok, view_tup, hadd, of_some, st_ok, gName_ap, List.set_cons_succ, List.set_cons_zero]
    exact ⟨_, _, _, rfl, e, _, _, rfl, rfl, by simp [hrl]; omega⟩) (env := [some (.ref 0), some (.int m), some sg, some (.tup [.int a, .int b]), some (.int (N1 % 8)), some (.lst [.int l, .int w]), some (.lst (qs.map pr)), some (pD ((N6 % m) :: l :: w :: a :: b :: [])), none, x1, y6]) (st := (.lst [.int (N6 / m)] :: (J ++ [.dead]))) ⟨[], none, rfl, rfl, rfl⟩
  obtain ⟨env, st, e9, rest, z, rfl, rfl, hrl⟩ := f1
  refine ⟨N6 % m, l, w, a, b, rest, N6 / m, ?_, hl, hw, ha, by simp at hrl; omega⟩
  have hadd : oAdd (.tup [.int (N6 % m), .int l, .int w]) (.tup [.int a, .int b]) = some (.tup [.int (N6 % m), .int l, .int w, .int a, .int b]) := by
    rw [oAdd_tup _ _ (by simp)]
    rfl
  have gp : D.gnds (rest.map D.int) = true := by
    clear e9 hrl
    induction rest with
    | nil => rfl
    | cons i r ih => simp [D.gnds, D.gnd, ih]
  simp only [pD, List.map_cons, List.map_nil] at e9
  simp [F__law_part, B__law_part, List.replicate, e1, d2, d3, d4, e5, D.gnds, e6, d7, j0, j1, hadd, e8, e9, finR, D.gnd, gp]
end K09

set_option Elab.async false
set_option linter.all false
set_option maxRecDepth 100000
set_option maxHeartbeats 1000000
namespace K09
open Cb
open PySem (Str)
/-! the law's comparison -/
mutual
def okd : Nat → D → Bool
  | 0, _ => false
  | _ + 1, .non => true
  | _ + 1, .bl _ => true
  | _ + 1, .int _ => true
  | _ + 1, .str _ => true
  | n + 1, .tup xs => okds n xs && decide (xs.length ≤ 1000000)
  | n + 1, .lst xs => okds n xs && decide (xs.length ≤ 1000000)
  | _, _ => false
def okds : Nat → List D → Bool
  | _, [] => true
  | n, d :: ds => okd n d && okds n ds
end
theorem okds_at {n : Nat} : ∀ {xs : List D} {i : Nat} {d : D}, okds n xs = true → xs[i]? = some d → okd n d = true
  | [], _, _, _, e => by simp at e
  | x :: xs, 0, d, h, e => by
    have e' : x = d := by simpa using e
    subst e'
    have h' : okd n x = true ∧ okds n xs = true := by simpa [okds] using h
    exact h'.1
  | x :: xs, i + 1, d, h, e => by
    have h' : okd n x = true ∧ okds n xs = true := by simpa [okds] using h
    exact okds_at h'.2 (by simpa using e)
theorem okd_view {n : Nat} {d : D} (h : okd n d = true) (st : Sto) : view st d = d := by
  cases d <;> first | rfl | (cases n <;> simp [okd] at h)
def tyN : D → String
  | .non => "NoneType"
  | .bl _ => "bool"
  | .int _ => "int"
  | .str _ => "str"
  | .tup _ => "tuple"
  | _ => "list"
theorem isi {n : Nat} {d : D} (h : okd n d = true) (T : String) (hT : T ∈ ["bool", "int", "str", "tuple", "list"]) : cIsi pg [d, .ty T] = some (.bl (tyN d == T || (tyN d == "bool" && T == "int"))) := by
  have hT : T = "bool" ∨ T = "int" ∨ T = "str" ∨ T = "tuple" ∨ T = "list" := by simpa using hT
  cases d <;> first
    | (cases n <;> simp [okd] at h; done)
    | (rcases hT with rfl | rfl | rfl | rfl | rfl <;> simp [cIsi, D.tyOf, isiC, ctF, pg, tyN])
theorem same : ∀ (n : Nat) (t x : D) (st : Sto), okd n x = true → view st t = x → F__law_same n [t, x] st = .ok (.bl true) st
  | 0, _, _, _, h, _ => by simp [okd] at h
  | n + 1, t, x, st, h, hv => by
    have vx := okd_view h st
    have i1 := fun T hT => isi h T hT
    have seq : ∀ (xs : List D), x = .tup xs ∨ x = .lst xs → okds n xs = true → xs.length ≤ 1000000 → F__law_same (n + 1) [t, x] st = .ok (.bl true) st := by
      intro xs hx ho hl
      have hlen : cLen [x] = some (.int xs.length) := by rcases hx with rfl | rfl <;> rfl
      have f1 := forL_inv (g := gName 2) (b := L__law_same_0 (F__law_same n)) (ds := rgD 0 xs.length) (I := fun i env s => ∃ z, env = [some t, some x, z] ∧ s = st) (fun i d env s hd hI => by
        obtain ⟨z, rfl, rfl⟩ := hI
        obtain ⟨rfl, hi⟩ := rg_at hd
        have hi2 : i < xs.length := by omega
        have hget : xs[i]? = some xs[i] := List.getElem?_eq_getElem hi2
        have hix : oIx x (.int (i : Nat)) = some xs[i] := by
          rcases hx with rfl | rfl
          · exact oIx_tup hget
          · exact oIx_lst hget
        have ho2 := okds_at ho hget
        have hrc := same n xs[i] xs[i] s ho2 (okd_view ho2 s)
        have e : L__law_same_0 (F__law_same n) [some t, some x, some (.int (i : Nat))] s = .ok (.nx [some t, some x, some (.int (i : Nat))]) s := by
          simp [L__law_same_0, hv, vx, hix, hrc]
        exact ⟨_, _, _, rfl, e, _, rfl, rfl⟩) (env := [some t, some x, none]) (st := st) ⟨none, rfl, rfl⟩
      obtain ⟨env, s, e1, z, rfl, rfl⟩ := f1
      have hr : (-1000000 : Int) ≤ xs.length ∧ (xs.length : Int) ≤ 1000000 := by omega
      have hn : oIsN x .non = some (.bl false) := by rcases hx with rfl | rfl <;> rfl
      rcases hx with rfl | rfl
      · simp [F__law_same, B__law_same, List.replicate, hv, vx, hn, i1, tyN, hlen, hr, e1]
      · simp [F__law_same, B__law_same, List.replicate, hv, vx, hn, i1, tyN, hlen, hr, e1]
    cases x with
    | tup xs =>
      have h' : okds n xs = true ∧ xs.length ≤ 1000000 := by simpa [okd] using h
      exact seq xs (.inl rfl) h'.1 h'.2
    | lst xs =>
      have h' : okds n xs = true ∧ xs.length ≤ 1000000 := by simpa [okd] using h
      exact seq xs (.inr rfl) h'.1 h'.2
    | non => simp [F__law_same, B__law_same, List.replicate, hv]
    | bl b => simp [F__law_same, B__law_same, List.replicate, hv, i1, tyN]
    | int b => simp [F__law_same, B__law_same, List.replicate, hv, i1, tyN]
    | str b => simp [F__law_same, B__law_same, List.replicate, hv, i1, tyN]
    | _ => simp [okd] at h
end K09

set_option Elab.async false
set_option linter.all false
set_option maxRecDepth 100000
set_option maxHeartbeats 2000000
namespace K09
open Cb
open PySem (Str)
structure Pt where
  p0 : Int
  p1 : Int
  p2 : Int
  p3 : Int
  p4 : Int
  rest : List Int
def Pt.d (x : Pt) : D := .tup ((x.p0 :: x.p1 :: x.p2 :: x.p3 :: x.p4 :: x.rest).map D.int)
structure Pt.Ok (x : Pt) : Prop where
  a : 1 ≤ x.p1 ∧ x.p1 ≤ 60
  b : 1 ≤ x.p2 ∧ x.p2 ≤ 60
  c : -1 ≤ x.p3
  e : x.rest.length ≤ 10
def plen (x : Pt) : Int := (((x.p0 :: x.p1 :: x.p2 :: x.p3 :: x.p4 :: x.rest).map D.int).length : Nat)
section
variable (x : Pt)
theorem pt0 : oIx x.d (.int 0) = some (.int x.p0) := oIx_tup (k := 0) rfl
theorem pt1 : oIx x.d (.int 1) = some (.int x.p1) := oIx_tup (k := 1) rfl
theorem pt2 : oIx x.d (.int 2) = some (.int x.p2) := oIx_tup (k := 2) rfl
theorem pt3 : oIx x.d (.int 3) = some (.int x.p3) := oIx_tup (k := 3) rfl
theorem pt4 : oIx x.d (.int 4) = some (.int x.p4) := oIx_tup (k := 4) rfl
theorem ptv (st : Sto) : view st x.d = x.d := rfl
theorem ptl : cLen [x.d] = some (.int (plen x)) := rfl
theorem ptg : x.d.gnd = true := by
  have : ∀ l : List Int, D.gnds (l.map D.int) = true := fun l => by
    induction l with
    | nil => rfl
    | cons i r ih => simp [D.gnds, D.gnd, ih]
  exact this _
end
def clean (x : Pt) : Bool := decide (plen x = 5)
/-! selected by places -/
def sel (c : Nat → Bool) (f : Nat → D) (n : Nat) : List D := ((List.range n).filter c).map f
theorem sel_succ (c : Nat → Bool) (f : Nat → D) (n : Nat) : sel c f (n + 1) = sel c f n ++ (if c n then [f n] else []) := by
  unfold sel
  rw [List.range_succ, List.filter_append, List.map_append]
  congr 1
  cases h : c n <;> simp [List.filter_cons, h]
theorem sel_len (c : Nat → Bool) (f : Nat → D) (n : Nat) : (sel c f n).length ≤ n := by
  unfold sel
  rw [List.length_map]
  exact Nat.le_trans (List.length_filter_le _ _) (by simp)
theorem sel_none (c : Nat → Bool) (f : Nat → D) (h : ∀ i, c i = false) : ∀ n, sel c f n = []
  | 0 => rfl
  | n + 1 => by rw [sel_succ, sel_none c f h n, h n]; rfl
def mT (x : Pt) (k : Nat) : D := .tup [.str "take", x.d, .int (k : Nat)]
def mK (x : Pt) (k : Nat) : D := .tup [.str "keep", x.d, .int (k : Nat)]
def mC (x : Pt) (way at_ : Int) : D := .tup [.str "cut", x.d, .int way, .int at_]
def kFit (x : Pt) (k : KS) : Bool := (decide (k.1 ≤ x.p1) && decide (k.2.1 ≤ x.p2)) || (k.2.2 && (decide (k.2.1 ≤ x.p1) && decide (k.1 ≤ x.p2)))
def rFit (x : Pt) (r : RS') : Bool := decide (r.1 ≤ x.p1) && decide (r.2 ≤ x.p2)
def cT (x : Pt) (ks : List KS) (i : Nat) : Bool := match ks[i]? with
  | some k => kFit x k && clean x
  | none => false
def cK (x : Pt) (rs : List RS') (m : Nat) (i : Nat) : Bool := match rs[i]? with
  | some r => rFit x r && (clean x && decide (x.p0 + 1 < m))
  | none => false
def okc (x : Pt) (way : Int) : Bool := decide (x.p3 ≠ 0) || decide (x.p4 = way)
def cutL (x : Pt) (way side : Int) : List D := if okc x way then sel (fun _ => true) (fun j => mC x way (1 + (j : Nat))) (side - 1).toNat else []
def deedL (x : Pt) (ks : List KS) (rs : List RS') (m : Nat) : List D := (sel (cT x ks) (mT x) ks.length ++ sel (cK x rs m) (mK x) rs.length) ++ (cutL x 1 x.p1 ++ cutL x 2 x.p2)
theorem ge (i j : Int) : (i == j) = decide (i = j) := rfl
/-! the law's own list -/
theorem list0 (x : Pt) (dd : D) (ks : List KS) (i0 : oIx dd (.int 0) = some (.lst (rows kRow 0 ks))) (vd : ∀ st, view st dd = dd) (st : Sto) (acc : List D) (ha : acc.length < 1000) (i : Nat) (hi : i < ks.length) (y z : Option D) :
    ∃ g : D, L__law_list_0 [some dd, some x.d, some (.ref st.length), some (.int (i : Nat)), none, y, z, none] (st ++ [.lst acc]) = .ok (.nx [some dd, some x.d, some (.ref st.length), some (.int (i : Nat)), none, some (kRow i ks[i]), some g, none]) (st ++ [.lst (acc ++ if cT x ks i then [mT x i] else [])]) := by
  have hget : ks[i]? = some ks[i] := List.getElem?_eq_getElem hi
  have hrow : oIx (.lst (rows kRow 0 ks)) (.int (i : Nat)) = some (kRow i ks[i]) := oIx_lst (by rw [rows_get, hget, Nat.zero_add]; rfl)
  have hc : cT x ks i = (kFit x ks[i] && clean x) := by simp [cT, hget]
  generalize ks[i] = k at hrow hc
  have j1 : oIx (kRow i k) (.int 1) = some (.int k.1) := rfl
  have j2 : oIx (kRow i k) (.int 2) = some (.int k.2.1) := rfl
  have j3 : oIx (kRow i k) (.int 3) = some (.bl k.2.2) := rfl
  have vr : ∀ st, view st (kRow i k) = kRow i k := fun _ => rfl
  have gp := ptg x
  have hlt : acc.length < 1000000 := by omega
  obtain ⟨kl, kw, kt⟩ := k
  dsimp only at j1 j2 j3
  generalize kRow i (kl, kw, kt) = row at *
  refine ⟨.bl (kFit x (kl, kw, kt)), ?_⟩
  rw [hc]
  by_cases h5 : plen x = 5 <;> by_cases h1 : kl ≤ x.p1 <;> by_cases h2 : kw ≤ x.p2 <;> cases kt <;> by_cases h3 : kw ≤ x.p1 <;> by_cases h4 : kl ≤ x.p2 <;>
    simp [L__law_list_0, vd, i0, hrow, vr, j1, j2, j3, ptv, pt1, pt2, ptl, h5, h1, h2, h3, h4, kFit, clean, mT, D.gnd, D.gnds, gp, hlt]
theorem list1 (x : Pt) (dd : D) (rs : List RS') (m : Nat) (i1 : oIx dd (.int 1) = some (.lst (rows rRow 0 rs))) (i2 : oIx dd (.int 2) = some (.int (m : Nat))) (vd : ∀ st, view st dd = dd) (st : Sto) (acc : List D) (ha : acc.length < 1000) (i : Nat) (hi : i < rs.length) (y z : Option D) :
    ∃ g : D, L__law_list_1 [some dd, some x.d, some (.ref st.length), some (.int (i : Nat)), none, y, z, none] (st ++ [.lst acc]) = .ok (.nx [some dd, some x.d, some (.ref st.length), some (.int (i : Nat)), none, some (rRow i rs[i]), some g, none]) (st ++ [.lst (acc ++ if cK x rs m i then [mK x i] else [])]) := by
  have hget : rs[i]? = some rs[i] := List.getElem?_eq_getElem hi
  have hrow : oIx (.lst (rows rRow 0 rs)) (.int (i : Nat)) = some (rRow i rs[i]) := oIx_lst (by rw [rows_get, hget, Nat.zero_add]; rfl)
  have hc : cK x rs m i = (rFit x rs[i] && (clean x && decide (x.p0 + 1 < m))) := by simp [cK, hget]
  generalize rs[i] = k at hrow hc
  have j1 : oIx (rRow i k) (.int 1) = some (.int k.1) := rfl
  have j2 : oIx (rRow i k) (.int 2) = some (.int k.2) := rfl
  have vr : ∀ st, view st (rRow i k) = rRow i k := fun _ => rfl
  have gp := ptg x
  have hlt : acc.length < 1000000 := by omega
  obtain ⟨kl, kw⟩ := k
  dsimp only at j1 j2
  generalize rRow i (kl, kw) = row at *
  refine ⟨.bl (rFit x (kl, kw)), ?_⟩
  rw [hc]
  by_cases h5 : plen x = 5 <;> by_cases h1 : kl ≤ x.p1 <;> by_cases h2 : kw ≤ x.p2 <;> by_cases h3 : x.p0 + 1 < m <;>
    simp [L__law_list_1, vd, i1, i2, hrow, vr, j1, j2, ptv, pt0, pt1, pt2, ptl, h5, h1, h2, h3, rFit, clean, mK, D.gnd, D.gnds, gp, hlt]
theorem rg1_at {a : Int} {i : Nat} {d : D} (h : (rgD 1 a)[i]? = some d) : d = .int (1 + (i : Nat)) ∧ 1 + (i : Int) < a := by
  have hi : i < (a - 1).toNat := by simpa [rgD] using (List.getElem?_eq_some_iff.mp h).1
  have : (rgD 1 a)[i]? = some (.int (1 + (i : Nat))) := by
    unfold rgD
    rw [List.getElem?_map, List.getElem?_range hi]
    rfl
  rw [this] at h
  exact ⟨(Option.some.inj h).symm, by omega⟩
theorem list3 (x : Pt) (hx : x.Ok) (way side : Int) (hw : (way = 1 ∧ side = x.p1) ∨ (way = 2 ∧ side = x.p2)) (dd : D) (st : Sto) (acc : List D) (ha : acc.length < 1000) (k y z a : Option D) :
    ∃ a' : Option D, L__law_list_3 [some dd, some x.d, some (.ref st.length), k, some (.int way), y, z, a] (st ++ [.lst acc]) = .ok (.nx [some dd, some x.d, some (.ref st.length), k, some (.int way), y, z, a']) (st ++ [.lst (acc ++ cutL x way side)]) := by
  have gp := ptg x
  have hs : oIx x.d (.int way) = some (.int side) ∧ 1 ≤ side ∧ side ≤ 60 := by
    rcases hw with ⟨rfl, rfl⟩ | ⟨rfl, rfl⟩
    · exact ⟨pt1 x, hx.a⟩
    · exact ⟨pt2 x, hx.b⟩
  obtain ⟨hs, hb⟩ := hs
  have f1 := forL_inv (g := gName 7) (b := L__law_list_2) (ds := rgD 1 side) (I := fun i env s => ∃ a', env = [some dd, some x.d, some (.ref st.length), k, some (.int way), y, z, a'] ∧ s = st ++ [.lst (acc ++ sel (fun _ => true) (fun j => mC x way (1 + (j : Nat))) i)]) (fun i d env s hd hI => by
    obtain ⟨a', rfl, rfl⟩ := hI
    obtain ⟨rfl, hi⟩ := rg1_at hd
    have hl := sel_len (fun _ => true) (fun j => mC x way (1 + (j : Nat))) i
    have hlt : acc.length + (sel (fun _ => true) (fun j => mC x way (1 + (j : Nat))) i).length < 1000000 := by omega
    have e : L__law_list_2 [some dd, some x.d, some (.ref st.length), k, some (.int way), y, z, some (.int (1 + (i : Nat)))] (st ++ [.lst (acc ++ sel (fun _ => true) (fun j => mC x way (1 + (j : Nat))) i)]) =
        .ok (.nx [some dd, some x.d, some (.ref st.length), k, some (.int way), y, z, some (.int (1 + (i : Nat)))]) (st ++ [.lst (acc ++ sel (fun _ => true) (fun j => mC x way (1 + (j : Nat))) (i + 1))]) := by
      have hm : D.tup [.str (Str.ofString "cut"), x.d, .int way, .int (1 + (i : Nat))] = mC x way (1 + (i : Nat)) := rfl
      have gm : (mC x way (1 + (i : Nat))).gnd = true := by simp [mC, D.gnd, D.gnds, gp]
      rw [sel_succ]
      simp [L__law_list_2, gm, hm, hlt]
    exact ⟨_, _, _, rfl, e, _, rfl, rfl⟩) (env := [some dd, some x.d, some (.ref st.length), k, some (.int way), y, z, a]) (st := st ++ [.lst acc]) ⟨a, rfl, by simp [sel]⟩
  obtain ⟨env, s, e1, a', rfl, rfl⟩ := f1
  have hlen : (rgD 1 side).length = (side - 1).toNat := by simp [rgD]
  rw [hlen] at e1
  have hr : (-1000000 : Int) ≤ side ∧ side ≤ 1000000 := by omega
  by_cases h3 : x.p3 = 0
  · by_cases h4 : x.p4 = way
    · have hc : okc x way = true := by simp [okc, h4]
      exact ⟨a', by simp [L__law_list_3, ptv, pt3, pt4, h3, h4, hs, hr, e1, cutL, hc]⟩
    · have hc : okc x way = false := by simp [okc, h3, h4]
      exact ⟨a, by simp [L__law_list_3, ptv, pt3, pt4, h3, h4, cutL, hc]⟩
  · have hc : okc x way = true := by simp [okc, h3]
    exact ⟨a', by simp [L__law_list_3, ptv, pt3, pt4, h3, hs, hr, e1, cutL, hc]⟩
theorem cut_len (x : Pt) (way side : Int) (h : side ≤ 60) : (cutL x way side).length ≤ 60 := by
  unfold cutL
  split
  · have := sel_len (fun _ => true) (fun j => mC x way (1 + (j : Nat))) (side - 1).toNat
    omega
  · simp
theorem gnd_sel (c : Nat → Bool) (f : Nat → D) (h : ∀ i, (f i).gnd = true) (n : Nat) : D.gnds (sel c f n) = true := by
  induction n with
  | zero => rfl
  | succ n ih =>
    rw [sel_succ]
    have app : ∀ a b : List D, D.gnds a = true → D.gnds b = true → D.gnds (a ++ b) = true := by
      intro a b ha hb
      induction a with
      | nil => exact hb
      | cons p r ih2 =>
        have h' : p.gnd = true ∧ D.gnds r = true := by simpa [D.gnds] using ha
        simp [D.gnds, h'.1, ih2 h'.2]
    refine app _ _ ih ?_
    split
    · simp [D.gnds, h]
    · rfl
theorem law_list (x : Pt) (hx : x.Ok) (d : Dr) (hd : d.Ok) (st : Sto) : F__law_list [d.d, x.d] st = .ok (.lst (deedL x d.ks d.rs d.m)) st := by
  obtain ⟨ks, rs, m, sg, kerf⟩ := d
  obtain ⟨hk, hr, hm, hsg, hkf, oks, ors⟩ := hd
  dsimp only at hk hr hm hsg hkf oks ors
  have hd : (Dr.mk ks rs m sg kerf).d = .lst [.lst (rows kRow 0 ks), .lst (rows rRow 0 rs), .int m, sg, .int kerf] := rfl
  rw [hd]
  dsimp only
  generalize hdd : D.lst [.lst (rows kRow 0 ks), .lst (rows rRow 0 rs), .int m, sg, .int kerf] = dd
  have i0 : oIx dd (.int 0) = some (.lst (rows kRow 0 ks)) := by rw [← hdd]; rfl
  have i1 : oIx dd (.int 1) = some (.lst (rows rRow 0 rs)) := by rw [← hdd]; rfl
  have i2 : oIx dd (.int 2) = some (.int (m : Nat)) := by rw [← hdd]; rfl
  have vd : ∀ st, view st dd = dd := fun st => by rw [← hdd]; rfl
  have f0 := forL_inv (g := gName 3) (b := L__law_list_0) (ds := rgD 0 ks.length) (I := fun i env s => ∃ k y z, env = [some dd, some x.d, some (.ref st.length), k, none, y, z, none] ∧ s = st ++ [.lst (sel (cT x ks) (mT x) i)]) (fun i d env s hd hI => by
    obtain ⟨k, y, z, rfl, rfl⟩ := hI
    obtain ⟨rfl, hi⟩ := rg_at hd
    have hl := sel_len (cT x ks) (mT x) i
    obtain ⟨g, e⟩ := list0 x dd ks i0 vd st (sel (cT x ks) (mT x) i) (by omega) i (by omega) y z
    rw [← sel_succ] at e
    exact ⟨_, _, _, rfl, e, _, _, _, rfl, rfl⟩) (env := [some dd, some x.d, some (.ref st.length), none, none, none, none, none]) (st := st ++ [.lst []]) ⟨none, none, none, rfl, by simp [sel]⟩
  obtain ⟨env0, s0, e0, k0, y0, z0, rfl, rfl⟩ := f0
  have lT := sel_len (cT x ks) (mT x) ks.length
  have f1 := forL_inv (g := gName 3) (b := L__law_list_1) (ds := rgD 0 rs.length) (I := fun i env s => ∃ k y z, env = [some dd, some x.d, some (.ref st.length), k, none, y, z, none] ∧ s = st ++ [.lst (sel (cT x ks) (mT x) ks.length ++ sel (cK x rs m) (mK x) i)]) (fun i d env s hd hI => by
    obtain ⟨k, y, z, rfl, rfl⟩ := hI
    obtain ⟨rfl, hi⟩ := rg_at hd
    have hl := sel_len (cK x rs m) (mK x) i
    obtain ⟨g, e⟩ := list1 x dd rs m i1 i2 vd st (sel (cT x ks) (mT x) ks.length ++ sel (cK x rs m) (mK x) i) (by simp; omega) i (by omega) y z
    rw [List.append_assoc, ← sel_succ] at e
    exact ⟨_, _, _, rfl, e, _, _, _, rfl, rfl⟩) (env := [some dd, some x.d, some (.ref st.length), k0, none, y0, z0, none]) (st := st ++ [.lst (sel (cT x ks) (mT x) ks.length)]) ⟨k0, y0, z0, rfl, by simp [sel]⟩
  obtain ⟨env1, s1, e1, k1, y1, z1, rfl, rfl⟩ := f1
  have hkl : (rgD 0 ks.length).length = ks.length := by rw [rg_len]; omega
  have hrl : (rgD 0 rs.length).length = rs.length := by rw [rg_len]; omega
  rw [hkl] at e0
  rw [hrl] at e1
  have lK := sel_len (cK x rs m) (mK x) rs.length
  generalize hA : sel (cT x ks) (mT x) ks.length ++ sel (cK x rs m) (mK x) rs.length = A at e1
  have hAl : A.length ≤ 9 := by rw [← hA]; simp; omega
  obtain ⟨a2, e2⟩ := list3 x hx 1 x.p1 (.inl ⟨rfl, rfl⟩) dd st A (by omega) k1 y1 z1 none
  have lc := cut_len x 1 x.p1 hx.a.2
  obtain ⟨a3, e3⟩ := list3 x hx 2 x.p2 (.inr ⟨rfl, rfl⟩) dd st (A ++ cutL x 1 x.p1) (by simp; omega) k1 y1 z1 a2
  have e4 : forL (gName 4) L__law_list_3 [.int 1, .int 2] [some dd, some x.d, some (.ref st.length), k1, none, y1, z1, none] (st ++ [.lst A]) = .ok (.nx [some dd, some x.d, some (.ref st.length), k1, some (.int 2), y1, z1, a3]) (st ++ [.lst (A ++ (cutL x 1 x.p1 ++ cutL x 2 x.p2))]) := by
    rw [← List.append_assoc]
    simp [forL, e2, e3]
  have hB : deedL x ks rs m = A ++ (cutL x 1 x.p1 ++ cutL x 2 x.p2) := by rw [← hA]; rfl
  rw [hB]
  have r1 : (-1000000 : Int) ≤ ks.length ∧ (ks.length : Int) ≤ 1000000 := by omega
  have r2 : (-1000000 : Int) ≤ rs.length ∧ (rs.length : Int) ≤ 1000000 := by omega
  simp [F__law_list, B__law_list, List.replicate, vd, i0, i1, rows_len, D.gnds, r1, e0, r2, e1, e4, finR]
end K09

set_option Elab.async false
set_option linter.all false
set_option maxRecDepth 100000
set_option maxHeartbeats 2000000
namespace K09
open Cb
open PySem (Str)
theorem is_clean (x : Pt) (st : Sto) : F_is_clean [x.d] st = .ok (.bl (clean x)) st := by
  simp [F_is_clean, B_is_clean, List.replicate, ptv, ptl, clean, ge]
theorem side_of (x : Pt) (way side : Int) (hw : (way = 1 ∧ side = x.p1) ∨ (way = 2 ∧ side = x.p2)) (st : Sto) : F_side_of [x.d, .int way] st = .ok (.int side) st := by
  rcases hw with ⟨rfl, rfl⟩ | ⟨rfl, rfl⟩
  · simp [F_side_of, B_side_of, List.replicate, ptv, pt1]
  · simp [F_side_of, B_side_of, List.replicate, ptv, pt2]
theorem may_cut (x : Pt) (hx : x.Ok) (way side at_ : Int) (hw : (way = 1 ∧ side = x.p1) ∨ (way = 2 ∧ side = x.p2)) (ha : 1 ≤ at_ ∧ at_ < side) (st : Sto) : F_may_cut [x.d, .int way, .int at_] st = .ok (.bl (okc x way)) st := by
  have hn : oNotIn (.int way) (.tup [.int 1, .int 2]) = some (.bl false) := by
    rcases hw with ⟨rfl, _⟩ | ⟨rfl, _⟩ <;> simp [oNotIn, isInD, D.plain, D.plains, D.eqv]
  have hs := side_of x way side hw
  have hc := hx.c
  unfold okc
  by_cases h4 : x.p4 = way
  · by_cases h3 : x.p3 = -1
    · simp [F_may_cut, B_may_cut, List.replicate, hn, hs, ha.1, ha.2, ptv, pt3, pt4, h3, h4]
    · have b3 : (x.p3 == -1) = false := by simp [h3]
      simp [F_may_cut, B_may_cut, List.replicate, hn, hs, ha.1, ha.2, ptv, pt3, pt4, b3, h4]
  · have b4 : (x.p4 == way) = false := by simp [h4]
    by_cases h3 : x.p3 = -1
    · simp [F_may_cut, B_may_cut, List.replicate, hn, hs, ha.1, ha.2, ptv, pt3, pt4, h3, h4]
    · have b3 : (x.p3 == -1) = false := by simp [h3]
      by_cases h0 : x.p3 = 0
      · simp [F_may_cut, B_may_cut, List.replicate, hn, hs, ha.1, ha.2, ptv, pt3, pt4, h0, b4, h4]
      · have h1 : 1 ≤ x.p3 := by omega
        simp [F_may_cut, B_may_cut, List.replicate, hn, hs, ha.1, ha.2, ptv, pt3, pt4, b3, b4, h0, h1, h4]
theorem cuts1 (x : Pt) (hx : x.Ok) (way side : Int) (hw : (way = 1 ∧ side = x.p1) ∨ (way = 2 ∧ side = x.p2)) (st : Sto) (acc : List D) (ha : acc.length < 1000) (a : Option D) :
    ∃ a' : Option D, L_cuts_at_1 [some x.d, some (.ref st.length), some (.int way), a] (st ++ [.lst acc]) = .ok (.nx [some x.d, some (.ref st.length), some (.int way), a']) (st ++ [.lst (acc ++ cutL x way side)]) := by
  have gp := ptg x
  have hb : 1 ≤ side ∧ side ≤ 60 := by
    rcases hw with ⟨rfl, rfl⟩ | ⟨rfl, rfl⟩
    · exact hx.a
    · exact hx.b
  have hs := side_of x way side hw
  have hlen : (rgD 1 side).length = (side - 1).toNat := by simp [rgD]
  have hr : (-1000000 : Int) ≤ side ∧ side ≤ 1000000 := by omega
  have f1 := forL_inv (g := gName 3) (b := L_cuts_at_0) (ds := rgD 1 side) (I := fun i env s => ∃ a', env = [some x.d, some (.ref st.length), some (.int way), a'] ∧ s = st ++ [.lst (acc ++ sel (fun _ => okc x way) (fun j => mC x way (1 + (j : Nat))) i)]) (fun i d env s hd hI => by
    obtain ⟨a', rfl, rfl⟩ := hI
    obtain ⟨rfl, hi⟩ := rg1_at hd
    have hl := sel_len (fun _ => okc x way) (fun j => mC x way (1 + (j : Nat))) i
    have hlt : acc.length + (sel (fun _ => okc x way) (fun j => mC x way (1 + (j : Nat))) i).length < 1000000 := by omega
    have hm : D.tup [.str (Str.ofString "cut"), x.d, .int way, .int (1 + (i : Nat))] = mC x way (1 + (i : Nat)) := rfl
    have gm : (mC x way (1 + (i : Nat))).gnd = true := by simp [mC, D.gnd, D.gnds, gp]
    have mc := fun s => may_cut x hx way side (1 + (i : Nat)) hw (by omega) s
    have e : L_cuts_at_0 [some x.d, some (.ref st.length), some (.int way), some (.int (1 + (i : Nat)))] (st ++ [.lst (acc ++ sel (fun _ => okc x way) (fun j => mC x way (1 + (j : Nat))) i)]) =
        .ok (.nx [some x.d, some (.ref st.length), some (.int way), some (.int (1 + (i : Nat)))]) (st ++ [.lst (acc ++ sel (fun _ => okc x way) (fun j => mC x way (1 + (j : Nat))) (i + 1))]) := by
      rw [sel_succ]
      cases hc : okc x way with
      | true =>
        rw [hc] at mc hlt
        simp [L_cuts_at_0, mc, gm, hm, hlt]
      | false =>
        rw [hc] at mc
        simp [L_cuts_at_0, mc]
    exact ⟨_, _, _, rfl, e, _, rfl, rfl⟩) (env := [some x.d, some (.ref st.length), some (.int way), a]) (st := st ++ [.lst acc]) ⟨a, rfl, by simp [sel]⟩
  obtain ⟨env, s, e1, a', rfl, rfl⟩ := f1
  rw [hlen] at e1
  have hcl : sel (fun _ => okc x way) (fun j => mC x way (1 + (j : Nat))) (side - 1).toNat = cutL x way side := by
    unfold cutL
    cases okc x way with
    | true => rfl
    | false => exact sel_none _ _ (fun _ => rfl) _
  rw [hcl] at e1
  exact ⟨a', by simp [L_cuts_at_1, hs, hr, e1]⟩
theorem cuts_at (x : Pt) (hx : x.Ok) (st : Sto) : F_cuts_at [x.d] st = .ok (.lst (cutL x 1 x.p1 ++ cutL x 2 x.p2)) st := by
  have lc := cut_len x 1 x.p1 hx.a.2
  obtain ⟨a2, e2⟩ := cuts1 x hx 1 x.p1 (.inl ⟨rfl, rfl⟩) st [] (by simp) none
  obtain ⟨a3, e3⟩ := cuts1 x hx 2 x.p2 (.inr ⟨rfl, rfl⟩) st (cutL x 1 x.p1) (by omega) a2
  simp only [List.nil_append] at e2
  simp [F_cuts_at, B_cuts_at, List.replicate, D.gnds, forL, e2, e3, finR]
theorem kind_at (d : Dr) (i : Nat) (k : KS) (h : d.ks[i]? = some k) (st : Sto) : F_kind_at [d.sheet, .int (i : Nat)] st = .ok (kObj i k) st := by
  have hi := (List.getElem?_eq_some_iff.mp h).1
  have ha : attrD pg "Sheet" "kinds" ["kinds", "boards", "days", "rests", "kerf", "stages", "cut_cost"] [.tup (rows kObj 0 d.ks), .tup [oBoard], .tup (List.replicate d.m (oDay (rows kObj 0 d.ks).length)), .tup (rows rObj 0 d.rs), .int d.kerf, d.sg, .int 0] = some (.tup (rows kObj 0 d.ks)) := by simp [attrD, pg, fldD]
  have hix : oIx (.tup (rows kObj 0 d.ks)) (.int (i : Nat)) = some (kObj i k) := oIx_tup (by rw [rows_get, h, Nat.zero_add]; rfl)
  have g : (kObj i k).gnd = true := by simp [D.gnd, D.gnds]
  have ht : ∀ y : Str, F_thing_at [.tup (rows kObj 0 d.ks), .str y, .int (i : Nat)] st = .ok (kObj i k) st := fun y => by
    have h2 : (i : Int) < d.ks.length := by omega
    simp [F_thing_at, B_thing_at, List.replicate, rows_len, h2, hix, finR_gnd g]
  simp [F_kind_at, B_kind_at, List.replicate, Dr.sheet, ha, ht, finR_gnd g]
theorem fits (d : Dr) (x : Pt) (i : Nat) (hi : i < d.ks.length) (st : Sto) : F_fits [d.sheet, x.d, .int (i : Nat)] st = .ok (.bl (cT x d.ks i)) st := by
  have hget : d.ks[i]? = some d.ks[i] := List.getElem?_eq_getElem hi
  have hk := fun st => kind_at d i _ hget st
  have hc : cT x d.ks i = (kFit x d.ks[i] && clean x) := by simp [cT, hget]
  rw [hc]
  generalize d.ks[i] = k at hk
  obtain ⟨kl, kw, kt⟩ := k
  have a1 : attrD pg "Kind" "length" ["name", "length", "width", "price", "turns"] [.str (letter (97 + i)), .int kl, .int kw, .int 0, .bl kt] = some (.int kl) := by simp [attrD, pg, fldD]
  have a2 : attrD pg "Kind" "width" ["name", "length", "width", "price", "turns"] [.str (letter (97 + i)), .int kl, .int kw, .int 0, .bl kt] = some (.int kw) := by simp [attrD, pg, fldD]
  have a3 : attrD pg "Kind" "turns" ["name", "length", "width", "price", "turns"] [.str (letter (97 + i)), .int kl, .int kw, .int 0, .bl kt] = some (.bl kt) := by simp [attrD, pg, fldD]
  have hcl := is_clean x
  generalize d.sheet = sh at hk
  cases hq : clean x with
  | false =>
    rw [hq] at hcl
    simp [F_fits, B_fits, List.replicate, hk, hcl]
  | true =>
    rw [hq] at hcl
    unfold kFit
    by_cases h1 : kl ≤ x.p1 <;> by_cases h2 : kw ≤ x.p2 <;> cases kt <;> by_cases h3 : kw ≤ x.p1 <;> by_cases h4 : kl ≤ x.p2 <;>
      simp [F_fits, B_fits, List.replicate, hk, hcl, a1, a2, a3, ptv, pt1, pt2, h1, h2, h3, h4]
theorem holds_rest (x : Pt) (i : Nat) (r : RS') (st : Sto) : F_holds_rest [x.d, rObj i r] st = .ok (.bl (rFit x r && clean x)) st := by
  obtain ⟨kl, kw⟩ := r
  have a1 : attrD pg "Rest" "length" ["name", "length", "width", "cost"] [.str (letter (114 + i)), .int kl, .int kw, .int 0] = some (.int kl) := by simp [attrD, pg, fldD]
  have a2 : attrD pg "Rest" "width" ["name", "length", "width", "cost"] [.str (letter (114 + i)), .int kl, .int kw, .int 0] = some (.int kw) := by simp [attrD, pg, fldD]
  have hcl := is_clean x
  unfold rFit
  cases hq : clean x with
  | false =>
    rw [hq] at hcl
    simp [F_holds_rest, B_holds_rest, List.replicate, hcl]
  | true =>
    rw [hq] at hcl
    by_cases h1 : kl ≤ x.p1 <;> by_cases h2 : kw ≤ x.p2 <;>
      simp [F_holds_rest, B_holds_rest, List.replicate, hcl, a1, a2, ptv, pt1, pt2, h1, h2]
theorem ends_at (d : Dr) (hd : d.Ok) (x : Pt) (st : Sto) : F_ends_at [d.sheet, x.d] st = .ok (.lst (sel (cT x d.ks) (mT x) d.ks.length ++ sel (cK x d.rs d.m) (mK x) d.rs.length)) st := by
  have hk := hd.k
  have hr := hd.r
  have gp := ptg x
  have ak : attrD pg "Sheet" "kinds" ["kinds", "boards", "days", "rests", "kerf", "stages", "cut_cost"] [.tup (rows kObj 0 d.ks), .tup [oBoard], .tup (List.replicate d.m (oDay (rows kObj 0 d.ks).length)), .tup (rows rObj 0 d.rs), .int d.kerf, d.sg, .int 0] = some (.tup (rows kObj 0 d.ks)) := by simp [attrD, pg, fldD]
  have ad : attrD pg "Sheet" "days" ["kinds", "boards", "days", "rests", "kerf", "stages", "cut_cost"] [.tup (rows kObj 0 d.ks), .tup [oBoard], .tup (List.replicate d.m (oDay (rows kObj 0 d.ks).length)), .tup (rows rObj 0 d.rs), .int d.kerf, d.sg, .int 0] = some (.tup (List.replicate d.m (oDay (rows kObj 0 d.ks).length))) := by simp [attrD, pg, fldD]
  have ar : attrD pg "Sheet" "rests" ["kinds", "boards", "days", "rests", "kerf", "stages", "cut_cost"] [.tup (rows kObj 0 d.ks), .tup [oBoard], .tup (List.replicate d.m (oDay (rows kObj 0 d.ks).length)), .tup (rows rObj 0 d.rs), .int d.kerf, d.sg, .int 0] = some (.tup (rows rObj 0 d.rs)) := by simp [attrD, pg, fldD]
  have hft := fun i hi => fits d x i hi
  have e0 : ∀ (st : Sto) (f : String) (v : D), attrD pg "Sheet" f ["kinds", "boards", "days", "rests", "kerf", "stages", "cut_cost"] [.tup (rows kObj 0 d.ks), .tup [oBoard], .tup (List.replicate d.m (oDay (rows kObj 0 d.ks).length)), .tup (rows rObj 0 d.rs), .int d.kerf, d.sg, .int 0] = some v →
      ∀ env : Env, env[0]? = some (some d.sheet) → eFld pg (eVar 0) f env st = .ok v st := fun st f v h env he => by
    simp only [eFld_ap, eVar_ap, he, bnd_ok, Dr.sheet, h, of_some]
  generalize hsh : d.sheet = sh at *
  have lk := lcL_map (g := gName 5) (c := tB (eCall (F_fits) (aCons (eVar 0) (aCons (eVar 1) (aCons (eVar 5) (aNil)))))) (e := C_ends_at_0) (env := [some sh, some x.d, none, none, none, none]) (st := st) (p := fun d' => match d' with | .int i => cT x d.ks i.toNat | _ => false) (h := fun d' => match d' with | .int i => mT x i.toNat | _ => .non) (rgD 0 d.ks.length) [] (by rw [rg_len]; simp; omega) (fun d' hd' => by
    obtain ⟨i, hi⟩ := List.mem_iff_getElem?.mp hd'
    obtain ⟨rfl, hi2⟩ := rg_at hi
    refine ⟨_, rfl, fun acc => ⟨?_, fun _ => ⟨?_, by simp [mT, D.gnd, D.gnds, gp]⟩⟩⟩
    · simp [hft i (by omega)]
    · simp [C_ends_at_0, mT])
  have hsel : ((rgD 0 d.ks.length).filter fun d' => match d' with | .int i => cT x d.ks i.toNat | _ => false).map (fun d' => match d' with | .int i => mT x i.toNat | _ => .non) = sel (cT x d.ks) (mT x) d.ks.length := by
    have : rgD 0 d.ks.length = (List.range d.ks.length).map fun i => .int (i : Nat) := by simp [rgD]
    rw [this, List.filter_map, List.map_map]
    unfold sel
    rfl
  rw [hsel] at lk
  simp only [List.nil_append] at lk
  have lT := sel_len (cT x d.ks) (mT x) d.ks.length
  generalize hT : sel (cT x d.ks) (mT x) d.ks.length = T at *
  have f1 := forL_inv (g := gTup (gCons (gName 3) (gCons (gName 4) gNil))) (b := L_ends_at_0) (ds := enumD 0 (rows rObj 0 d.rs)) (I := fun i env s => ∃ a b, env = [some sh, some x.d, some (.ref st.length), a, b, none] ∧ s = st ++ [.lst (T ++ sel (fun j => match d.rs[j]? with | some r => rFit x r && clean x | none => false) (mK x) i)]) (fun i d' env s hd' hI => by
    obtain ⟨a, b, rfl, rfl⟩ := hI
    rw [enum_at, rows_get] at hd'
    cases hq : d.rs[i]? with
    | none => rw [hq] at hd'; cases hd'
    | some r =>
      rw [hq] at hd'
      have hd2 : d' = .tup [.int (i : Nat), rObj i r] := by
        have := Option.some.inj hd'
        rw [← this, Nat.zero_add]
      subst hd2
      have hil := (List.getElem?_eq_some_iff.mp hq).1
      have hl := sel_len (fun j => match d.rs[j]? with | some r => rFit x r && clean x | none => false) (mK x) i
      have hm : D.tup [.str (Str.ofString "keep"), x.d, .int (i : Nat)] = mK x i := rfl
      have gm : (mK x i).gnd = true := by simp [mK, D.gnd, D.gnds, gp]
      have hh := fun s => holds_rest x i r s
      rw [sel_succ]
      simp only [hq]
      generalize sel (fun j => match d.rs[j]? with | some r => rFit x r && clean x | none => false) (mK x) i = S at *
      have hlt : T.length + S.length < 1000000 := by omega
      have vo : ∀ s : Sto, view s (rObj i r) = rObj i r := fun _ => rfl
      generalize rObj i r = ro at *
      cases hc : (rFit x r && clean x) with
      | true =>
        rw [hc] at hh
        have e : L_ends_at_0 [some sh, some x.d, some (.ref st.length), some (.int (i : Nat)), some ro, none] (st ++ [.lst (T ++ S)]) = .ok (.nx [some sh, some x.d, some (.ref st.length), some (.int (i : Nat)), some ro, none]) (st ++ [.lst (T ++ (S ++ [mK x i]))]) := by
          simp [L_ends_at_0, hh, gm, hm, hlt]
        exact ⟨_, _, _, rfl, e, _, _, rfl, by simp⟩
      | false =>
        rw [hc] at hh
        have e : L_ends_at_0 [some sh, some x.d, some (.ref st.length), some (.int (i : Nat)), some ro, none] (st ++ [.lst (T ++ S)]) = .ok (.nx [some sh, some x.d, some (.ref st.length), some (.int (i : Nat)), some ro, none]) (st ++ [.lst (T ++ S)]) := by
          simp [L_ends_at_0, hh]
        exact ⟨_, _, _, rfl, e, _, _, rfl, by simp⟩) (env := [some sh, some x.d, some (.ref st.length), none, none, none]) (st := st ++ [.lst T]) ⟨none, none, rfl, by simp [sel]⟩
  obtain ⟨env, s, e1, a, b, rfl, rfl⟩ := f1
  have hel : (enumD 0 (rows rObj 0 d.rs)).length = d.rs.length := by
    have : ∀ (ds : List D) (k : Nat), (enumD k ds).length = ds.length := fun ds => by
      induction ds with
      | nil => intro k; rfl
      | cons d ds ih => intro k; rw [enumD, List.length_cons, List.length_cons, ih]
    rw [this, rows_len]
  rw [hel] at e1
  have r1 : (-1000000 : Int) ≤ d.ks.length ∧ (d.ks.length : Int) ≤ 1000000 := by omega
  have k1 := fun st env he => e0 st "kinds" _ ak env he
  have k2 := fun st env he => e0 st "days" _ ad env he
  have k3 := fun st env he => e0 st "rests" _ ar env he
  have lkl : (rows kObj 0 d.ks).length = d.ks.length := rows_len _ _ _
  by_cases hp : x.p0 + 1 < d.m
  · have hcK : sel (cK x d.rs d.m) (mK x) d.rs.length = sel (fun j => match d.rs[j]? with | some r => rFit x r && clean x | none => false) (mK x) d.rs.length := by
      congr 1
      funext j
      unfold cK
      cases d.rs[j]? with
      | none => rfl
      | some r => simp [hp]
    rw [hcK]
    simp [F_ends_at, B_ends_at, List.replicate, k1, k2, k3, lkl, r1, lk, ptv, pt0, hp, e1, finR, -eFld_ap]
  · have hcK : sel (cK x d.rs d.m) (mK x) d.rs.length = [] := sel_none _ _ (fun i => by
      unfold cK
      cases d.rs[i]? with
      | none => rfl
      | some r => simp [hp]) _
    rw [hcK]
    simp [F_ends_at, B_ends_at, List.replicate, k1, k2, k3, lkl, r1, lk, ptv, pt0, hp, finR, -eFld_ap]
end K09

set_option Elab.async false
set_option linter.all false
set_option maxRecDepth 100000
set_option maxHeartbeats 2000000
namespace K09
open Cb
open PySem (Str)
theorem deed_len (x : Pt) (hx : x.Ok) (d : Dr) (hd : d.Ok) : (deedL x d.ks d.rs d.m).length ≤ 200 := by
  unfold deedL
  have h1 := sel_len (cT x d.ks) (mT x) d.ks.length
  have h2 := sel_len (cK x d.rs d.m) (mK x) d.rs.length
  have h3 := cut_len x 1 x.p1 hx.a.2
  have h4 := cut_len x 2 x.p2 hx.b.2
  have h5 := hd.k
  have h6 := hd.r
  simp only [List.length_append]
  omega
theorem gnds_app : ∀ a b : List D, D.gnds a = true → D.gnds b = true → D.gnds (a ++ b) = true
  | [], _, _, hb => hb
  | p :: r, b, ha, hb => by
    have h' : p.gnd = true ∧ D.gnds r = true := by simpa [D.gnds] using ha
    simp [D.gnds, h'.1, gnds_app r b h'.2 hb]
theorem okds_app {n : Nat} : ∀ a b : List D, okds n a = true → okds n b = true → okds n (a ++ b) = true
  | [], _, _, hb => hb
  | p :: r, b, ha, hb => by
    have h' : okd n p = true ∧ okds n r = true := by simpa [okds] using ha
    simp [okds, h'.1, okds_app r b h'.2 hb]
theorem okds_sel {m : Nat} (c : Nat → Bool) (f : Nat → D) (h : ∀ i, okd m (f i) = true) : ∀ n, okds m (sel c f n) = true
  | 0 => by simp [sel, okds]
  | n + 1 => by
    rw [sel_succ]
    refine okds_app _ _ (okds_sel c f h n) ?_
    split
    · simp [okds, h]
    · simp [okds]
theorem okds_ints {n : Nat} : ∀ l : List Int, okds (n + 1) (l.map D.int) = true
  | [] => by simp [okds]
  | i :: r => by simp [okds, okd, okds_ints r]
theorem okd_pt (x : Pt) (hx : x.Ok) (n : Nat) : okd (n + 2) x.d = true := by
  have h := hx.e
  have h2 : (((x.p0 :: x.p1 :: x.p2 :: x.p3 :: x.p4 :: x.rest).map D.int).length ≤ 1000000) := by simp; omega
  have h3 := okds_ints (n := n) (x.p0 :: x.p1 :: x.p2 :: x.p3 :: x.p4 :: x.rest)
  simp only [Pt.d, okd, h3, h2, decide_true, Bool.and_self]
theorem okd_deeds (x : Pt) (hx : x.Ok) (d : Dr) (hd : d.Ok) : okd 8 (.lst (deedL x d.ks d.rs d.m)) = true := by
  have hl := deed_len x hx d hd
  have hp := okd_pt x hx
  have cut : ∀ way side, okds 7 (cutL x way side) = true := fun way side => by
    unfold cutL
    split
    · exact okds_sel _ _ (fun i => by simp [mC, okd, okds, hp 4]) _
    · simp [okds]
  have h : okds 7 (deedL x d.ks d.rs d.m) = true := by
    unfold deedL
    exact okds_app _ _ (okds_app _ _ (okds_sel _ _ (fun i => by simp [mT, okd, okds, hp 4]) _) (okds_sel _ _ (fun i => by simp [mK, okd, okds, hp 4]) _)) (okds_app _ _ (cut _ _) (cut _ _))
  have h2 : (deedL x d.ks d.rs d.m).length ≤ 1000000 := by omega
  simp only [okd, h, h2, decide_true, Bool.and_self]
theorem deeds_at (x : Pt) (hx : x.Ok) (d : Dr) (hd : d.Ok) (st : Sto) : F_deeds_at [d.sheet, x.d] st = .ok (.ref st.length) (st ++ [.lst (deedL x d.ks d.rs d.m)]) := by
  have h1 := ends_at d hd x st
  have h2 := cuts_at x hx st
  have l1 := sel_len (cT x d.ks) (mT x) d.ks.length
  have l2 := sel_len (cK x d.rs d.m) (mK x) d.rs.length
  have l3 := cut_len x 1 x.p1 hx.a.2
  have l4 := cut_len x 2 x.p2 hx.b.2
  have h5 := hd.k
  have h6 := hd.r
  have gp := ptg x
  have g1 : D.gnds (sel (cT x d.ks) (mT x) d.ks.length ++ sel (cK x d.rs d.m) (mK x) d.rs.length) = true := gnds_app _ _ (gnd_sel _ _ (fun i => by simp [mT, D.gnd, D.gnds, gp]) _) (gnd_sel _ _ (fun i => by simp [mK, D.gnd, D.gnds, gp]) _)
  have gc : ∀ way side, D.gnds (cutL x way side) = true := fun way side => by
    unfold cutL
    split
    · exact gnd_sel _ _ (fun i => by simp [mC, D.gnd, D.gnds, gp]) _
    · rfl
  have g2 : D.gnds (cutL x 1 x.p1 ++ cutL x 2 x.p2) = true := gnds_app _ _ (gc _ _) (gc _ _)
  have hB : deedL x d.ks d.rs d.m = (sel (cT x d.ks) (mT x) d.ks.length ++ sel (cK x d.rs d.m) (mK x) d.rs.length) ++ (cutL x 1 x.p1 ++ cutL x 2 x.p2) := rfl
  rw [hB]
  have hA : (sel (cT x d.ks) (mT x) d.ks.length ++ sel (cK x d.rs d.m) (mK x) d.rs.length).length ≤ 9 := by simp only [List.length_append]; omega
  have hC : (cutL x 1 x.p1 ++ cutL x 2 x.p2).length ≤ 120 := by simp only [List.length_append]; omega
  generalize sel (cT x d.ks) (mT x) d.ks.length ++ sel (cK x d.rs d.m) (mK x) d.rs.length = A at *
  generalize cutL x 1 x.p1 ++ cutL x 2 x.p2 = C at *
  have hl : A.length + C.length ≤ 1000000 := by omega
  have hf : finL st.length (.ref st.length) (st ++ [.lst (A ++ C)]) = .ok (.ref st.length) (st ++ [.lst (A ++ C)]) := by
    rw [finL_ref (xs := A ++ C) (by omega) (by simp)]
    simp
  simp [F_deeds_at, B_deeds_at, List.replicate, h1, h2, hl, g1, g2, hf]
theorem main (ns : List Int) (hl : ns.length ≤ 63) : ∃ st, F_law [.scr (ns.map D.int)] [] = .ok (.bl true) st := by
  obtain ⟨N, e1⟩ := pool ns hl
  obtain ⟨d, N2, e2, hd⟩ := drawn N
  have e3 := built d hd N2
  have dv : ∀ st, view st d.d = d.d := fun _ => rfl
  have d2 : oIx d.d (.int 2) = some (.int (d.m : Nat)) := rfl
  have d3 : oIx d.d (.int 3) = some d.sg := rfl
  have f1 := forL_inv (g := gName 4) (b := L_law_0) (ds := rgD 0 3) (I := fun i env s => ∃ (k a b c : Option D) (n : Int) (J : Sto), env = [some (.scr (ns.map D.int)), some (.ref 0), some d.d, some d.sheet, k, a, b, c] ∧ s = .lst [.int n] :: J) (fun i y env s hy hI => by
    obtain ⟨k, a, b, c, n, J, rfl, rfl⟩ := hI
    obtain ⟨p0, p1, p2, p3, p4, rest, n', ep, h1, h2, h3, h4⟩ := part J n d.m hd.m d.sg hd.sg
    have hx : (Pt.mk p0 p1 p2 p3 p4 rest).Ok := ⟨h1, h2, h3, h4⟩
    have hxd : pD (p0 :: p1 :: p2 :: p3 :: p4 :: rest) = (Pt.mk p0 p1 p2 p3 p4 rest).d := rfl
    rw [hxd] at ep
    generalize hxx : Pt.mk p0 p1 p2 p3 p4 rest = x at hx ep
    have gp := ptg x
    have el := fun st => law_list x hx d hd st
    have ed := fun st => deeds_at x hx d hd st
    have hok := okd_deeds x hx d hd
    have hlen := deed_len x hx d hd
    generalize deedL x d.ks d.rs d.m = L at *
    have es := fun (st : Sto) (h : view st (.ref (J.length + 1)) = .lst L) => same 8 (.ref (J.length + 1)) (.lst L) st hok h
    have es2 := fun (st : Sto) (h : view st (.ref (J.length + 2)) = .lst L) => same 8 (.ref (J.length + 2)) (.lst L) st hok h
    have v1 : view (.lst [.int n'] :: (J ++ [.lst L])) (.ref (J.length + 1)) = .lst L := view_ref (by simp)
    have e5 := es _ v1
    have hlt : L.length < 1000000 := by omega
    have hix : ixD (L ++ [D.tup [.str (Str.ofString "take"), x.d, .int 0]]).length 0 = some 0 := ixD_nat (k := 0) (by simp)
    have hix' : ixD (L.length + 1) 0 = some 0 := by simpa using hix
    have hp : perm [1, 0] [x.d, d.sheet] = [d.sheet, x.d] := rfl
    generalize hM : (L ++ [D.tup [.str (Str.ofString "take"), x.d, .int 0]]).set 0 (.tup [.str (Str.ofString "cut"), x.d, .int 1, .int 1]) = M
    have v2 : view (.lst [.int n'] :: (J ++ [.lst M, .lst L])) (.ref (J.length + 2)) = .lst L := view_ref (by
      rw [List.getElem?_cons_succ, List.getElem?_append_right (by omega)]
      simp)
    have e6 := es2 _ v2
    have e : L_law_0 [some (.scr (ns.map D.int)), some (.ref 0), some d.d, some d.sheet, some y, a, b, c] (.lst [.int n] :: J) =
        .ok (.nx [some (.scr (ns.map D.int)), some (.ref 0), some d.d, some d.sheet, some y, some x.d, some (.lst L), some (.ref (J.length + 1))]) (.lst [.int n'] :: (J ++ [.lst M, .lst L])) := by
      simp [L_law_0, dv, d2, d3, ep, el, ed, e5, D.gnd, D.gnds, gp, hlt, hix', hp, hM, e6]
    exact ⟨_, _, _, rfl, e, _, _, _, _, _, _, rfl, rfl⟩) (env := [some (.scr (ns.map D.int)), some (.ref 0), some d.d, some d.sheet, none, none, none, none]) (st := [.lst [.int N2]]) ⟨none, none, none, none, N2, [], rfl, rfl⟩
  obtain ⟨env, st, e4, _⟩ := f1
  exact ⟨[], by simp [F_law, B_law, List.replicate, e1, e2, e3, e4]⟩
end K09

set_option Elab.async false
set_option linter.all false
set_option maxRecDepth 100000
set_option maxHeartbeats 0
/-! K09_H: the head. -/
namespace K09
open Cb
open PySem PySem.Spec PyProof.Rows L2
def dd__law_pool : He.DefD := ⟨("_law_pool", none), "_law_pool", "_law_pool", defArgs s__law_pool, defBody s__law_pool, defScope s__law_pool, [], []⟩
def dd__law_draw : He.DefD := ⟨("_law_draw", none), "_law_draw", "_law_draw", defArgs s__law_draw, defBody s__law_draw, defScope s__law_draw, [], []⟩
def dd__law_drawn : He.DefD := ⟨("_law_drawn", none), "_law_drawn", "_law_drawn", defArgs s__law_drawn, defBody s__law_drawn, defScope s__law_drawn, [], []⟩
def dd_is_name : He.DefD := ⟨("is_name", none), "is_name", "is_name", defArgs s_is_name, defBody s_is_name, defScope s_is_name, [], []⟩
def dd_check_name : He.DefD := ⟨("check_name", none), "check_name", "check_name", defArgs s_check_name, defBody s_check_name, defScope s_check_name, [], []⟩
def dd_in_range : He.DefD := ⟨("in_range", none), "in_range", "in_range", defArgs s_in_range, defBody s_in_range, defScope s_in_range, [], []⟩
def dd_check_sides : He.DefD := ⟨("check_sides", none), "check_sides", "check_sides", defArgs s_check_sides, defBody s_check_sides, defScope s_check_sides, [], []⟩
def dd_init_Kind : He.DefD := ⟨("Kind", some "__init__"), "__init__", "Kind.__init__", defArgs s_init_Kind, defBody s_init_Kind, defScope s_init_Kind, [.int 0], [("turns", .bl false)]⟩
def dd_init_Rest : He.DefD := ⟨("Rest", some "__init__"), "__init__", "Rest.__init__", defArgs s_init_Rest, defBody s_init_Rest, defScope s_init_Rest, [.int 0], []⟩
def dd_init_Day : He.DefD := ⟨("Day", some "__init__"), "__init__", "Day.__init__", defArgs s_init_Day, defBody s_init_Day, defScope s_init_Day, [], []⟩
def dd_ascending_cells : He.DefD := ⟨("ascending_cells", none), "ascending_cells", "ascending_cells", defArgs s_ascending_cells, defBody s_ascending_cells, defScope s_ascending_cells, [], []⟩
def dd_init_Board : He.DefD := ⟨("Board", some "__init__"), "__init__", "Board.__init__", defArgs s_init_Board, defBody s_init_Board, defScope s_init_Board, [], [("trim", .int 0), ("faults", .adr (kwdAt ("Board", some "__init__") "faults"))]⟩
def dd_check_many : He.DefD := ⟨("check_many", none), "check_many", "check_many", defArgs s_check_many, defBody s_check_many, defScope s_check_many, [], []⟩
def dd_check_names : He.DefD := ⟨("check_names", none), "check_names", "check_names", defArgs s_check_names, defBody s_check_names, defScope s_check_names, [], []⟩
def dd_check_days : He.DefD := ⟨("check_days", none), "check_days", "check_days", defArgs s_check_days, defBody s_check_days, defScope s_check_days, [], []⟩
def dd_count_lots : He.DefD := ⟨("count_lots", none), "count_lots", "count_lots", defArgs s_count_lots, defBody s_count_lots, defScope s_count_lots, [], []⟩
def dd_init_Sheet : He.DefD := ⟨("Sheet", some "__init__"), "__init__", "Sheet.__init__", defArgs s_init_Sheet, defBody s_init_Sheet, defScope s_init_Sheet, [], [("rests", .adr (kwdAt ("Sheet", some "__init__") "rests")), ("kerf", .int 0), ("stages", .non), ("cut_cost", .int 0)]⟩
def dd__law_built : He.DefD := ⟨("_law_built", none), "_law_built", "_law_built", defArgs s__law_built, defBody s__law_built, defScope s__law_built, [], []⟩
def dd__law_ascending : He.DefD := ⟨("_law_ascending", none), "_law_ascending", "_law_ascending", defArgs s__law_ascending, defBody s__law_ascending, defScope s__law_ascending, [], []⟩
def dd__law_part : He.DefD := ⟨("_law_part", none), "_law_part", "_law_part", defArgs s__law_part, defBody s__law_part, defScope s__law_part, [], []⟩
def dd__law_list : He.DefD := ⟨("_law_list", none), "_law_list", "_law_list", defArgs s__law_list, defBody s__law_list, defScope s__law_list, [], []⟩
def dd_thing_at : He.DefD := ⟨("thing_at", none), "thing_at", "thing_at", defArgs s_thing_at, defBody s_thing_at, defScope s_thing_at, [], []⟩
def dd_kind_at : He.DefD := ⟨("kind_at", none), "kind_at", "kind_at", defArgs s_kind_at, defBody s_kind_at, defScope s_kind_at, [], []⟩
def dd_is_clean : He.DefD := ⟨("is_clean", none), "is_clean", "is_clean", defArgs s_is_clean, defBody s_is_clean, defScope s_is_clean, [], []⟩
def dd_fits : He.DefD := ⟨("fits", none), "fits", "fits", defArgs s_fits, defBody s_fits, defScope s_fits, [], []⟩
def dd_holds_rest : He.DefD := ⟨("holds_rest", none), "holds_rest", "holds_rest", defArgs s_holds_rest, defBody s_holds_rest, defScope s_holds_rest, [], []⟩
def dd_ends_at : He.DefD := ⟨("ends_at", none), "ends_at", "ends_at", defArgs s_ends_at, defBody s_ends_at, defScope s_ends_at, [], []⟩
def dd_side_of : He.DefD := ⟨("side_of", none), "side_of", "side_of", defArgs s_side_of, defBody s_side_of, defScope s_side_of, [], []⟩
def dd_may_cut : He.DefD := ⟨("may_cut", none), "may_cut", "may_cut", defArgs s_may_cut, defBody s_may_cut, defScope s_may_cut, [], []⟩
def dd_cuts_at : He.DefD := ⟨("cuts_at", none), "cuts_at", "cuts_at", defArgs s_cuts_at, defBody s_cuts_at, defScope s_cuts_at, [], []⟩
def dd_deeds_at : He.DefD := ⟨("deeds_at", none), "deeds_at", "deeds_at", defArgs s_deeds_at, defBody s_deeds_at, defScope s_deeds_at, [], []⟩
def dd__law_same : He.DefD := ⟨("_law_same", none), "_law_same", "_law_same", defArgs s__law_same, defBody s__law_same, defScope s__law_same, [], []⟩
def dd_law : He.DefD := ⟨("law", none), "law", "law", defArgs s_law, defBody s_law, defScope s_law, [], []⟩
def fn : List He.DefD := [dd__law_pool, dd__law_draw, dd__law_drawn, dd_is_name, dd_check_name, dd_in_range, dd_check_sides, dd_init_Kind, dd_init_Rest, dd_init_Day, dd_ascending_cells, dd_init_Board, dd_check_many, dd_check_names, dd_check_days, dd_count_lots, dd_init_Sheet, dd__law_built, dd__law_ascending, dd__law_part, dd__law_list, dd_thing_at, dd_kind_at, dd_is_clean, dd_fits, dd_holds_rest, dd_ends_at, dd_side_of, dd_may_cut, dd_cuts_at, dd_deeds_at, dd__law_same, dd_law]
def fa : List He.Fa := ([.free "int", .free "abs", .free "len", .free "range", .free "tuple", .free "sorted", .free "enumerate", .free "sum", .free "bool", .free "isinstance", .free "str", .free "list", .glo "_law_pool", .glo "_law_draw", .glo "_law_drawn", .glo "is_name", .glo "check_name", .glo "in_range", .glo "check_sides", .glo "Kind", .glo "Rest", .glo "Day", .glo "ascending_cells", .glo "Board", .glo "check_many"] : List He.Fa) ++ ([.glo "check_names", .glo "check_days", .glo "count_lots", .glo "Sheet", .glo "_law_built", .glo "_law_ascending", .glo "_law_part", .glo "_law_list", .glo "thing_at", .glo "kind_at", .glo "is_clean", .glo "fits", .glo "holds_rest", .glo "ends_at", .glo "side_of", .glo "may_cut", .glo "cuts_at", .glo "deeds_at", .glo "_law_same", .glo "law", .int "MOST_CHARACTERS" 8, .str "LETTERS" "abcdefghijklmnopqrstuvwxyz", .str "LETTERS_AND_DIGITS" "abcdefghijklmnopqrstuvwxyz0123456789", .int "MOST_SIDE" 60, .int "MOST_COST" 1000000000] : List He.Fa) ++ ([.int "MOST_AREA" 120, .int "MOST_HIGH" 6, .int "MOST_SUPPLY" 6, .int "MOST_FAULTS" 4, .int "MOST_KINDS" 6, .int "MOST_BOARD_SORTS" 4, .int "MOST_DAYS" 3, .int "MOST_RESTS" 3, .int "MOST_KERF" 20, .int "MOST_STAGES" 8, .int "FIRST_CELL" 5, .mkr "Kind", .mkr "Rest", .mkr "Day", .mkr "Board", .mkr "Sheet"] : List He.Fa)
def ex (K : PySem.W.Frag) : Bool := POk.chk K pg && (emptyB K (kwdAt ("Board", some "__init__") "faults" K) && (emptyB K (kwdAt ("Sheet", some "__init__") "rests" K)))
abbrev R : PySem.W.OpenRow := PySem.W.OpenLaw.row PySem.Challenge.rw_cutboards_k09_deeds_in_order
def names : List PySem.Str := (["_wall", "__name__", "CutError", "BadName", "OutOfRange", "BadCount", "BadCell", "SameName", "WrongWidth", "TooMany", "NoName", "NoThing", "BadLine", "thing_at", "kind_at", "FIRST_CELL", "is_clean", "side_of", "may_cut", "fits", "holds_rest", "ends_at", "cuts_at", "deeds_at", "LETTERS", "LETTERS_AND_DIGITS", "MOST_CHARACTERS", "MOST_SIDE", "MOST_AREA", "MOST_COST"] : List PySem.Str) ++ (["is_name", "check_name", "in_range", "check_sides", "MOST_FAULTS", "ascending_cells", "Board", "MOST_HIGH", "MOST_SUPPLY", "Day", "Kind", "Rest", "DIGITS", "MOST_PLAIN_DIGITS", "is_written", "read_plain", "SORTS", "read_numbers", "read_pairs", "saw_values", "kind_values", "board_values", "rest_values", "day_values", "READERS", "follows", "line_rows", "made_kind", "made_board", "parsed_sheet"] : List PySem.Str) ++ (["kind_line", "board_line", "rest_line", "day_line", "saw_line", "sheet_lines", "MOST_KINDS", "MOST_BOARD_SORTS", "MOST_DAYS", "MOST_RESTS", "MOST_KERF", "MOST_STAGES", "check_many", "check_names", "check_days", "count_lots", "Sheet", "_law_pool", "_law_draw", "_law_same", "_law_ascending", "_law_drawn", "_law_built", "_law_part", "_law_list"] : List PySem.Str)
def as_ : (Addr → Option Obj) → List Addr := asR "_wall" [1230, 1237, 1244, 1251, 1258, 1265, 1272, 1277, 1284, 1291, 1298, 1305, 1312, 1319, 1324, 1366, 1392, 1422, 1451, 1600, 1605, 1612, 1619, 1681, 1690, 1697, 1704, 1709, 1716, 1721, 1728, 1735, 1742, 1229, 1236, 1243, 1250, 1257, 1264, 1271, 1276, 1283, 1290, 1297, 1304, 1311, 1318, 1323, 1365, 1391, 1421, 1450, 1599, 1604, 1611, 1618, 1680, 1689, 1696, 1703, 1708, 1715, 1720, 1727, 1734, 1741, 1340, 1382, 1412, 1441, 1633, 1339, 1333, 1381, 1411, 1404, 1405, 1440, 1434, 1632, 1628, 1332, 1627]
abbrev hk : PySem.W.Hook := hookA as_ fa fn ex
def ob (s : PySem.W.SharedT) : He.AlD × Bool := obsA (as_ (HandSHeadRun.getT s)) fa fn ex (HandSHeadRun.getT s)
theorem ob_eq (s : PySem.W.SharedT) : ob s = hk.obs s.abs := obsA_eq (HandSHeadRun.getT_eq s)
theorem run0 (w : World) : HandSHeadRun.RunEq R (PySem.W.view R.prog [97]) hk ob 7000 names (w.withFollow "special-get-raises" false) := by
  intro os
  kernel_rfl
theorem run1 (w : World) : HandSHeadRun.RunEq R (PySem.W.view R.prog [97]) hk ob 7000 names (w.withFollow "special-get-raises" true) := by
  intro os
  kernel_rfl
theorem run (w : World) : HandSHeadRun.RunEq R (PySem.W.view R.prog [97]) hk ob 7000 names w :=
  PySem.W.byRow2 "special-get-raises" (P := fun w => HandSHeadRun.RunEq R (PySem.W.view R.prog [97]) hk ob 7000 names w) run0 run1 w
theorem txt_of {K : PySem.W.Frag} {h : Heap} {mg : Str → Option Value} (X : K.In h) (G : h.Ns mainGlobals mg) (c : SaysA fa fn ex K) : Txt K mg := by
  have hx : ex K = true := c.more
  obtain ⟨hp, hz0⟩ := Bool.and_eq_true_iff.mp hx
  obtain ⟨he1, he2⟩ := Bool.and_eq_true_iff.mp hz0
  exact ⟨POk.of hp,
    He.free_ok X G (c.d.fact 0 (f := .free "int") rfl),
    He.free_ok X G (c.d.fact 1 (f := .free "abs") rfl),
    He.free_ok X G (c.d.fact 2 (f := .free "len") rfl),
    He.free_ok X G (c.d.fact 3 (f := .free "range") rfl),
    He.free_ok X G (c.d.fact 4 (f := .free "tuple") rfl),
    He.free_ok X G (c.d.fact 5 (f := .free "sorted") rfl),
    He.free_ok X G (c.d.fact 6 (f := .free "enumerate") rfl),
    He.free_ok X G (c.d.fact 7 (f := .free "sum") rfl),
    He.free_ok X G (c.d.fact 8 (f := .free "bool") rfl),
    He.free_ok X G (c.d.fact 9 (f := .free "isinstance") rfl),
    He.free_ok X G (c.d.fact 10 (f := .free "str") rfl),
    He.free_ok X G (c.d.fact 11 (f := .free "list") rfl),
    He.glo_ok X G (c.d.fact 12 (f := .glo "_law_pool") rfl),
    He.glo_ok X G (c.d.fact 13 (f := .glo "_law_draw") rfl),
    He.glo_ok X G (c.d.fact 14 (f := .glo "_law_drawn") rfl),
    He.glo_ok X G (c.d.fact 15 (f := .glo "is_name") rfl),
    He.glo_ok X G (c.d.fact 16 (f := .glo "check_name") rfl),
    He.glo_ok X G (c.d.fact 17 (f := .glo "in_range") rfl),
    He.glo_ok X G (c.d.fact 18 (f := .glo "check_sides") rfl),
    He.glo_ok X G (c.d.fact 19 (f := .glo "Kind") rfl),
    He.glo_ok X G (c.d.fact 20 (f := .glo "Rest") rfl),
    He.glo_ok X G (c.d.fact 21 (f := .glo "Day") rfl),
    He.glo_ok X G (c.d.fact 22 (f := .glo "ascending_cells") rfl),
    He.glo_ok X G (c.d.fact 23 (f := .glo "Board") rfl),
    He.glo_ok X G (c.d.fact 24 (f := .glo "check_many") rfl),
    He.glo_ok X G (c.d.fact 25 (f := .glo "check_names") rfl),
    He.glo_ok X G (c.d.fact 26 (f := .glo "check_days") rfl),
    He.glo_ok X G (c.d.fact 27 (f := .glo "count_lots") rfl),
    He.glo_ok X G (c.d.fact 28 (f := .glo "Sheet") rfl),
    He.glo_ok X G (c.d.fact 29 (f := .glo "_law_built") rfl),
    He.glo_ok X G (c.d.fact 30 (f := .glo "_law_ascending") rfl),
    He.glo_ok X G (c.d.fact 31 (f := .glo "_law_part") rfl),
    He.glo_ok X G (c.d.fact 32 (f := .glo "_law_list") rfl),
    He.glo_ok X G (c.d.fact 33 (f := .glo "thing_at") rfl),
    He.glo_ok X G (c.d.fact 34 (f := .glo "kind_at") rfl),
    He.glo_ok X G (c.d.fact 35 (f := .glo "is_clean") rfl),
    He.glo_ok X G (c.d.fact 36 (f := .glo "fits") rfl),
    He.glo_ok X G (c.d.fact 37 (f := .glo "holds_rest") rfl),
    He.glo_ok X G (c.d.fact 38 (f := .glo "ends_at") rfl),
    He.glo_ok X G (c.d.fact 39 (f := .glo "side_of") rfl),
    He.glo_ok X G (c.d.fact 40 (f := .glo "may_cut") rfl),
    He.glo_ok X G (c.d.fact 41 (f := .glo "cuts_at") rfl),
    He.glo_ok X G (c.d.fact 42 (f := .glo "deeds_at") rfl),
    He.glo_ok X G (c.d.fact 43 (f := .glo "_law_same") rfl),
    He.glo_ok X G (c.d.fact 44 (f := .glo "law") rfl),
    He.int_ok X G (c.d.fact 45 (f := .int "MOST_CHARACTERS" 8) rfl),
    He.str_ok X G (c.d.fact 46 (f := .str "LETTERS" "abcdefghijklmnopqrstuvwxyz") rfl),
    He.str_ok X G (c.d.fact 47 (f := .str "LETTERS_AND_DIGITS" "abcdefghijklmnopqrstuvwxyz0123456789") rfl),
    He.int_ok X G (c.d.fact 48 (f := .int "MOST_SIDE" 60) rfl),
    He.int_ok X G (c.d.fact 49 (f := .int "MOST_COST" 1000000000) rfl),
    He.int_ok X G (c.d.fact 50 (f := .int "MOST_AREA" 120) rfl),
    He.int_ok X G (c.d.fact 51 (f := .int "MOST_HIGH" 6) rfl),
    He.int_ok X G (c.d.fact 52 (f := .int "MOST_SUPPLY" 6) rfl),
    He.int_ok X G (c.d.fact 53 (f := .int "MOST_FAULTS" 4) rfl),
    He.int_ok X G (c.d.fact 54 (f := .int "MOST_KINDS" 6) rfl),
    He.int_ok X G (c.d.fact 55 (f := .int "MOST_BOARD_SORTS" 4) rfl),
    He.int_ok X G (c.d.fact 56 (f := .int "MOST_DAYS" 3) rfl),
    He.int_ok X G (c.d.fact 57 (f := .int "MOST_RESTS" 3) rfl),
    He.int_ok X G (c.d.fact 58 (f := .int "MOST_KERF" 20) rfl),
    He.int_ok X G (c.d.fact 59 (f := .int "MOST_STAGES" 8) rfl),
    He.int_ok X G (c.d.fact 60 (f := .int "FIRST_CELL" 5) rfl),
    c.d.def_ 0 (d := dd__law_pool) rfl,
    c.d.def_ 1 (d := dd__law_draw) rfl,
    c.d.def_ 2 (d := dd__law_drawn) rfl,
    c.d.def_ 3 (d := dd_is_name) rfl,
    c.d.def_ 4 (d := dd_check_name) rfl,
    c.d.def_ 5 (d := dd_in_range) rfl,
    c.d.def_ 6 (d := dd_check_sides) rfl,
    c.d.def_ 7 (d := dd_init_Kind) rfl,
    c.d.def_ 8 (d := dd_init_Rest) rfl,
    c.d.def_ 9 (d := dd_init_Day) rfl,
    c.d.def_ 10 (d := dd_ascending_cells) rfl,
    c.d.def_ 11 (d := dd_init_Board) rfl,
    he1,
    c.d.def_ 12 (d := dd_check_many) rfl,
    c.d.def_ 13 (d := dd_check_names) rfl,
    c.d.def_ 14 (d := dd_check_days) rfl,
    c.d.def_ 15 (d := dd_count_lots) rfl,
    c.d.def_ 16 (d := dd_init_Sheet) rfl,
    he2,
    c.d.def_ 17 (d := dd__law_built) rfl,
    c.d.def_ 18 (d := dd__law_ascending) rfl,
    c.d.def_ 19 (d := dd__law_part) rfl,
    c.d.def_ 20 (d := dd__law_list) rfl,
    c.d.def_ 21 (d := dd_thing_at) rfl,
    c.d.def_ 22 (d := dd_kind_at) rfl,
    c.d.def_ 23 (d := dd_is_clean) rfl,
    c.d.def_ 24 (d := dd_fits) rfl,
    c.d.def_ 25 (d := dd_holds_rest) rfl,
    c.d.def_ 26 (d := dd_ends_at) rfl,
    c.d.def_ 27 (d := dd_side_of) rfl,
    c.d.def_ 28 (d := dd_may_cut) rfl,
    c.d.def_ 29 (d := dd_cuts_at) rfl,
    c.d.def_ 30 (d := dd_deeds_at) rfl,
    c.d.def_ 31 (d := dd__law_same) rfl,
    c.d.def_ 32 (d := dd_law) rfl,
    He.mkr_ok (c.d.fact 61 (f := .mkr "Kind") rfl),
    He.mkr_ok (c.d.fact 62 (f := .mkr "Rest") rfl),
    He.mkr_ok (c.d.fact 63 (f := .mkr "Day") rfl),
    He.mkr_ok (c.d.fact 64 (f := .mkr "Board") rfl),
    He.mkr_ok (c.d.fact 65 (f := .mkr "Sheet") rfl)⟩
theorem glo_law {K : PySem.W.Frag} {h : Heap} {mg : Str → Option Value} (X : K.In h) (G : h.Ns mainGlobals mg) (c : SaysA fa fn ex K) : mg "law" = some (.ref (He.ga K "law")) := He.glo_ok X G (c.d.fact 44 (f := .glo "law") rfl)
end K09

set_option Elab.async false
set_option linter.all false
set_option maxRecDepth 100000
set_option maxHeartbeats 0
open PySem PySem.W PySem.Calls PyProof.Rows
theorem PySem.Challenge.cw_cutboards_k09_deeds_in_order_holds : PySem.Challenge.rw_cutboards_k09_deeds_in_order.Holds := by
  w_on; o_law
  refine HandSHeadRun.head_any (r := OpenLaw.row PySem.Challenge.rw_cutboards_k09_deeds_in_order) (q := view (OpenLaw.row PySem.Challenge.rw_cutboards_k09_deeds_in_order).prog [97]) (H := K09.hk) (ob := K09.ob) (M := 7000) (loose := K09.names) (d := HandSHeadRun.topDef (OpenLaw.row PySem.Challenge.rw_cutboards_k09_deeds_in_order).prog 97) (kwd := []) K09.ob_eq
    (by kernel_rfl) (fun s => by kernel_rfl) K09.run (by kernel_rfl) (by kernel_rfl) (by kernel_rfl) (by rfl) (by first | assumption | decide +kernel) (by decide +kernel) ⟨rfl, rfl, rfl, rfl, rfl, by decide +kernel⟩ ?hw ?hc
  case hw => w_witness2
  case hc =>
    refine L2.walk_ofE (l := PySem.Challenge.rw_cutboards_k09_deeds_in_order) (n := 63) (k := 9) (x := "script") (CX := L2.CX0) rfl (by decide) (by kernel_rfl) ⟨rfl, by decide, by decide⟩ ?F (fun _ _ _ _ z => z)
    intro w mg fa h Y G hmg0
    obtain ⟨K, KX, c⟩ := Y
    have hmg : mg ("law" : PySem.Str) = some (.ref fa) := by
      have e : (HandSHeadRun.topDef (OpenLaw.row PySem.Challenge.rw_cutboards_k09_deeds_in_order).prog 97).name = ("law" : PySem.Str) := by kernel_rfl
      rw [← e]
      exact hmg0
    have T := K09.txt_of KX G c
    obtain ⟨fd, F⟩ := T.d_law
    have e := hmg.symm.trans T.g_law
    cases e
    have b := L2.FunD.bindsA (ps := ["script"]) F fun _ _ _ _ _ _ us hl => match us, hl with | [_], _ => rfl
    refine ⟨K, fd, _, KX, fun s v => b s [v] rfl, fun H a ns hl _ hS => ?_, fun base _ _ => Cb.fn0 (K09.fn_law (P := (PySem.Challenge.rw_cutboards_k09_deeds_in_order).prog) (w := w) T F)⟩
    obtain ⟨st, e⟩ := K09.main ns hl
    exact Cb.law_sp hS e
