import PyProof.Rows.All
import Wide.All
import OpenK.AllK
import Wide.FinOn
import KE.KStateDown
import HandS.ForMost
import HandS.ForExc
import HandS.Defaults
import HandS.MakeKw
import HandS.MakeKwOnly
import HandS.CallSlots
import HandS.HotCalls
import HandS.ExcInit
import HandS.ExcIs
import HandS.ExcField
import HandS.IsInst
import HandS.Wide
import HandS.Conv
import HandS.TupAny
import HandS.Head0
import HandS.Head1
import HandS.Head2
import HandS.HeadEnd
import HandS.HeadHook1
import HandS.HeadHook2
import HandS.HeadHook3
import HandS.HeadHook4
import HandS.TupMul
import HandS.TupSets
import KE.DataEq
import KE.KTupSum
import HandS.SortInts
import KE.GoesEnum
import HandS.Star
import HandS.Property
import HandS.ExcCtx
import KE.KExcSuper
import HandS.FStr
import HandS.Nested
import HandS.Flt
import Lean
import PySem.Challenge.RW_cutboards_k08_pieces_fit
set_option linter.all false
/-! CbSem: a small functional reading of the programs' Python: values, a store of lists that are still built, expressions and statements as functions. -/
namespace Cb
open PySem (Str)

inductive D where
  | non
  | bl (b : Bool)
  | int (i : Int)
  | str (x : Str)
  | tup (xs : List D)
  | lst (xs : List D)
  | scr (xs : List D)
  | obj (C : String) (fs : List String) (xs : List D)
  | exn (C : String) (fs : List String) (xs : List D)
  | ref (n : Nat)
  | cls (C : String)
  | ty (n : String)
  deriving Inhabited

mutual
/-- no live object is named within -/
def D.gnd : D → Bool
  | .tup xs => D.gnds xs
  | .lst xs => D.gnds xs
  | .scr xs => D.gnds xs
  | .obj _ _ xs => D.gnds xs
  | .exn _ _ _ => false
  | .ref _ => false
  | _ => true
def D.gnds : List D → Bool
  | [] => true
  | d :: ds => d.gnd && D.gnds ds
end
mutual
/-- Python's == of data -/
def D.eqv : D → D → Bool
  | .non, .non => true
  | .bl a, .bl b => a == b
  | .bl a, .int j => (if a then 1 else 0) == j
  | .int i, .bl b => i == (if b then 1 else 0)
  | .int i, .int j => i == j
  | .str x, .str y => x == y
  | .tup xs, .tup ys => D.eqvs xs ys
  | .lst xs, .lst ys => D.eqvs xs ys
  | .lst xs, .scr ys => D.eqvs xs ys
  | .scr xs, .lst ys => D.eqvs xs ys
  | .scr xs, .scr ys => D.eqvs xs ys
  | _, _ => false
def D.eqvs : List D → List D → Bool
  | [], [] => true
  | x :: xs, y :: ys => x.eqv y && D.eqvs xs ys
  | _, _ => false
end
mutual
/-- data that == serves, nested at most n deep -/
def D.plain : Nat → D → Bool
  | _, .non => true
  | _, .bl _ => true
  | _, .int _ => true
  | _, .str _ => true
  | 0, _ => false
  | n + 1, .tup xs => D.plains n xs
  | n + 1, .lst xs => D.plains n xs
  | n + 1, .scr xs => D.plains n xs
  | _, _ => false
def D.plains : Nat → List D → Bool
  | _, [] => true
  | n, d :: ds => d.plain n && D.plains n ds
end

/-- what is still built -/
inductive SO where
  | lst (xs : List D)
  | dct (kvs : List (D × D))
  | ins (C : String) (fs : List String) (xs : List D)
  | dead
  deriving Inhabited
abbrev Sto := List SO
inductive R (α : Type) where
  | ok (a : α) (st : Sto)
  | exc (C : String) (fs : List String) (xs : List D) (st : Sto)
  | bad
abbrev Env := List (Option D)
inductive Fl where
  | nx (env : Env)
  | rt (d : D)
  | bk (env : Env)
  | ct (env : Env)
inductive RS where
  | ok (f : Fl) (st : Sto)
  | exc (C : String) (fs : List String) (xs : List D) (env : Env) (st : Sto)
  | bad
def R.bnd {α β : Type} (r : R α) (k : α → Sto → R β) : R β := match r with
  | .ok a st => k a st
  | .exc C fs xs st => .exc C fs xs st
  | .bad => .bad
/-- an expression's answer, for a statement -/
def R.st {α : Type} (r : R α) (env : Env) (k : α → Sto → RS) : RS := match r with
  | .ok a st => k a st
  | .exc C fs xs st => .exc C fs xs env st
  | .bad => .bad
def R.of {α : Type} (o : Option α) (st : Sto) : R α := match o with
  | some a => .ok a st
  | none => .bad
abbrev Ex := Env → Sto → R D
abbrev Tx := Env → Sto → R Bool
abbrev Ax := Env → Sto → R (List D)
abbrev Sx := Env → Sto → RS
abbrev Fn := List D → Sto → R D

/-- a live list as it stands -/
def view (st : Sto) : D → D
  | .ref n => (match st[n]? with
    | some (.lst xs) => .lst xs
    | _ => .ref n)
  | d => d

/-- a place in a sequence of n -/
def ixD (n : Nat) (i : Int) : Option Nat := if 0 ≤ i then (if i < n then some i.toNat else none) else if -(n : Int) ≤ i then some (i + n).toNat else none
/-- a program's classes: plain ones, exceptions; who is whose -/
structure Pg where
  own : List String
  exc : List String
  fld : List (String × String)
  con : List ((String × String) × Int)
  ct : List ((String ⊕ String) × (String ⊕ String) × Bool)
/-! ### expressions -/
def eVar (i : Nat) : Ex := fun env st => match env[i]? with
  | some (some d) => .ok d st
  | _ => .bad
def eC (d : D) : Ex := fun _ st => .ok d st
/-- a unary, a binary operation on values as they stand -/
def eU (f : D → Option D) (a : Ex) : Ex := fun env st => (a env st).bnd fun x st1 => R.of (f (view st1 x)) st1
def eB (f : D → D → Option D) (a b : Ex) : Ex := fun env st => (a env st).bnd fun x st1 => (b env st1).bnd fun y st2 => R.of (f (view st2 x) (view st2 y)) st2
/-- a chain x op y op' z -/
def eCh (f g : D → D → Option D) (a b c : Ex) : Ex := fun env st => (a env st).bnd fun x st1 => (b env st1).bnd fun y st2 => match f (view st2 x) (view st2 y) with
  | some (.bl true) => (c env st2).bnd fun z st3 => R.of (g (view st3 y) (view st3 z)) st3
  | some (.bl false) => .ok (.bl false) st2
  | _ => .bad
def eAnd (a b : Ex) : Ex := fun env st => (a env st).bnd fun x st1 => match x with
  | .bl true => b env st1
  | .bl false => .ok (.bl false) st1
  | _ => .bad
def eOr (a b : Ex) : Ex := fun env st => (a env st).bnd fun x st1 => match x with
  | .bl true => .ok (.bl true) st1
  | .bl false => b env st1
  | _ => .bad
def eNot (a : Ex) : Ex := fun env st => (a env st).bnd fun x st1 => match x with
  | .bl b => .ok (.bl (!b)) st1
  | _ => .bad
def eIf (c : Tx) (a b : Ex) : Ex := fun env st => (c env st).bnd fun t st1 => if t then a env st1 else b env st1
def aNil : Ax := fun _ st => .ok [] st
def aCons (a : Ex) (as : Ax) : Ax := fun env st => (a env st).bnd fun x st1 => (as env st1).bnd fun xs st2 => .ok (x :: xs) st2
/-- *a, .. -/
def aStar (a : Ex) (as : Ax) : Ax := fun env st => (a env st).bnd fun x st1 => match x with
  | .lst xs => (as env st1).bnd fun ys st2 => .ok (xs ++ ys) st2
  | .tup xs => (as env st1).bnd fun ys st2 => .ok (xs ++ ys) st2
  | .scr xs => (as env st1).bnd fun ys st2 => .ok (xs ++ ys) st2
  | _ => .bad
def eTup (as : Ax) : Ex := fun env st => (as env st).bnd fun xs st1 => if xs.length ≤ 1000000 then .ok (.tup xs) st1 else .bad
def eLst (as : Ax) : Ex := fun env st => (as env st).bnd fun xs st1 => if xs.length ≤ 1000000 then .ok (.lst xs) st1 else .bad
/-- a list that is built further -/
def eLstL (as : Ax) : Ex := fun env st => (as env st).bnd fun xs st1 => if xs.length ≤ 1000000 ∧ D.gnds xs = true then .ok (.ref st1.length) (st1 ++ [.lst xs]) else .bad
/-- list(a), built further -/
def eLstC (a : Ex) : Ex := fun env st => (a env st).bnd fun x st1 => match view st1 x with
  | .lst xs => if D.gnds xs = true then .ok (.ref st1.length) (st1 ++ [.lst xs]) else .bad
  | .tup xs => if D.gnds xs = true then .ok (.ref st1.length) (st1 ++ [.lst xs]) else .bad
  | _ => .bad
def eCall (F : Fn) (as : Ax) : Ex := fun env st => (as env st).bnd F
/-- f(.., k = v, ..): g orders the values, defaults too -/
def eCallG (F : Fn) (g : List D → List D → List D) (as ak : Ax) : Ex := fun env st => (as env st).bnd fun xs st1 => (ak env st1).bnd fun ys st2 => F (g xs ys) st2
/-- C(..): a new instance, its __init__ F; then it stands as it is -/
def mkD (C : String) (F : Fn) (ds : List D) (st : Sto) : R D := match F (.ref st.length :: ds) (st ++ [.ins C [] []]) with
  | .ok .non st2 => (match st2[st.length]? with
    | some (.ins C' fs ys) => if C' = C then .ok (.obj C fs ys) (st2.take st.length) else .bad
    | _ => .bad)
  | .ok _ _ => .bad
  | .exc C' fs xs st2 => .exc C' fs xs (st2.take st.length)
  | .bad => .bad
def eMake (C : String) (F : Fn) (g : List D → List D → List D) (as ak : Ax) : Ex := fun env st => (as env st).bnd fun xs st1 => (ak env st1).bnd fun ys st2 => mkD C F (g xs ys) st2
/-! ### tests -/
def tB (a : Ex) : Tx := fun env st => (a env st).bnd fun x st1 => match x with
  | .bl b => .ok b st1
  | _ => .bad
def tAnd (a b : Tx) : Tx := fun env st => (a env st).bnd fun x st1 => if x then b env st1 else .ok false st1
def tOr (a b : Tx) : Tx := fun env st => (a env st).bnd fun x st1 => if x then .ok true st1 else b env st1
def tNot (a : Tx) : Tx := fun env st => (a env st).bnd fun x st1 => .ok (!x) st1
def tYes : Tx := fun _ st => .ok true st

/-! ### targets -/
abbrev Gx := D → Env → Option Env
def gName (i : Nat) : Gx := fun d env => some (env.set i (some d))
def gNil : List D → Env → Option Env := fun ds env => match ds with
  | [] => some env
  | _ => none
def gCons (g : Gx) (gs : List D → Env → Option Env) : List D → Env → Option Env := fun ds env => match ds with
  | d :: r => (g d env).bind (gs r)
  | _ => none
def gTup (gs : List D → Env → Option Env) : Gx := fun d env => match d with
  | .tup ds => gs ds env
  | _ => none

/-! ### statements -/
def sNil : Sx := fun env st => .ok (.nx env) st
def sSeq (a b : Sx) : Sx := fun env st => match a env st with
  | .ok (.nx env1) st1 => b env1 st1
  | r => r
def sIf (c : Tx) (a b : Sx) : Sx := fun env st => (c env st).st env fun t st1 => if t then a env st1 else b env st1
def sRet (a : Ex) : Sx := fun env st => (a env st).st env fun d st1 => .ok (.rt d) st1
def sBreak : Sx := fun env st => .ok (.bk env) st
def sCont : Sx := fun env st => .ok (.ct env) st
def sDrop (a : Ex) : Sx := fun env st => (a env st).st env fun _ st1 => .ok (.nx env) st1
def sAsg (a : Ex) (g : Gx) : Sx := fun env st => (a env st).st env fun d st1 => match g d env with
  | some env1 => .ok (.nx env1) st1
  | none => .bad
def sAug (i : Nat) (f : D → D → Option D) (a : Ex) : Sx := fun env st => match env[i]? with
  | some (some x) => (a env st).st env fun y st1 => match f x y with
    | some z => .ok (.nx (env.set i (some z))) st1
    | none => .bad
  | _ => .bad
/-- the live list in slot i is built no further -/
def sFrz (i : Nat) : Sx := fun env st => match env[i]? with
  | some (some (.ref n)) => (match st[n]? with
    | some (.lst xs) => .ok (.nx (env.set i (some (.lst xs)))) (st.set n .dead)
    | _ => .bad)
  | _ => .bad
/-- self.f = e -/
def sFld (P : Pg) (i : Nat) (f : String) (a : Ex) : Sx := fun env st => (a env st).st env fun d st1 => match env[i]? with
  | some (some (.ref n)) => (match st1[n]? with
    | some (.ins C fs xs) => if d.gnd = true ∧ fs.length < 1000 ∧ f ∉ fs ∧ C ∈ P.own ∧ (C, f) ∈ P.fld then .ok (.nx env) (st1.set n (.ins C (fs ++ [f]) (xs ++ [d]))) else .bad
    | _ => .bad)
  | _ => .bad
/-- xs.append(e), xs in slot i -/
def sApp (i : Nat) (a : Ex) : Sx := fun env st => match env[i]? with
  | some (some (.ref n)) => (match st[n]? with
    | some (.lst _) => (a env st).st env fun d st1 => (match st1[n]? with
      | some (.lst xs) => if d.gnd = true ∧ xs.length < 1000000 then .ok (.nx env) (st1.set n (.lst (xs ++ [d]))) else .bad
      | _ => .bad)
    | _ => .bad)
  | _ => .bad
/-- xs[k] = e, xs in slot i -/
def sSet (i : Nat) (k a : Ex) : Sx := fun env st => (a env st).st env fun d st1 => match env[i]? with
  | some (some (.ref n)) => (k env st1).st env fun z st2 => (match z with
    | .int j => (match st2[n]? with
      | some (.lst xs) => (match ixD xs.length j with
        | some q => if d.gnd = true then .ok (.nx env) (st2.set n (.lst (xs.set q d))) else .bad
        | none => .bad)
      | _ => .bad)
    | _ => .bad)
  | _ => .bad
def sRaise (C : String) (fs : List String) (ok : List D → Bool) (as : Ax) : Sx := fun env st => (as env st).st env fun ds st1 => if ds.length = fs.length ∧ D.gnds ds = true ∧ ok ds = true then .exc C fs ds env st1 else .bad
/-- an exception's text: plain, or with its k-th argument within -/
def txt0 (_ : List D) : Bool := true
def txtAt (k : Nat) (ds : List D) : Bool := match ds[k]? with
  | some (.str y) => decide (y.length ≤ 1000)
  | _ => false
/-! loops -/
def forL (g : Gx) (b : Sx) : List D → Env → Sto → RS
  | [], env, st => .ok (.nx env) st
  | d :: ds, env, st => match g d env with
    | none => .bad
    | some env1 => match b env1 st with
      | .ok (.nx env2) st2 => forL g b ds env2 st2
      | .ok (.ct env2) st2 => forL g b ds env2 st2
      | .ok (.bk env2) st2 => .ok (.nx env2) st2
      | r => r
def sFor (src : Ax) (g : Gx) (b : Sx) : Sx := fun env st => (src env st).st env fun ds st1 => forL g b ds env st1
def whileN (c : Tx) (b : Sx) : Nat → Env → Sto → RS
  | 0, _, _ => .bad
  | n + 1, env, st => (c env st).st env fun t st1 => if t then (match b env st1 with
      | .ok (.nx env2) st2 => whileN c b n env2 st2
      | .ok (.ct env2) st2 => whileN c b n env2 st2
      | .ok (.bk env2) st2 => .ok (.nx env2) st2
      | r => r) else .ok (.nx env) st1
def sWhile (N : Nat) (c : Tx) (b : Sx) : Sx := whileN c b N
/-- the list is built as a live one at n, by turns -/
def lcL (g : Gx) (c : Tx) (e : Ex) (n : Nat) : List D → Env → Sto → R (List D)
  | [], _, st => (match st[n]? with
    | some (.lst acc) => .ok acc st
    | _ => .bad)
  | d :: ds, env, st => match g d env with
    | none => .bad
    | some env1 => match c env1 st with
      | .ok true st1 => (match e env1 st1 with
        | .ok x st2 => (match st2[n]? with
          | some (.lst acc) => if x.gnd = true ∧ acc.length < 1000000 then lcL g c e n ds env (st2.set n (.lst (acc ++ [x]))) else .bad
          | _ => .bad)
        | _ => .bad)
      | .ok false st1 => lcL g c e n ds env st1
      | _ => .bad
def wipeE (env : Env) : List Nat → Env
  | [] => env
  | v :: vs => (wipeE env vs).set v none
/-- [e for g in src if c]; own: the slots of its own names -/
def eLc (src : Ax) (g : Gx) (own : List Nat) (c : Tx) (e : Ex) : Ex := fun env st => (src env st).bnd fun ds st1 => (lcL g c e st1.length ds (wipeE env own) (st1 ++ [.lst []])).bnd fun xs st2 => .ok (.lst xs) (st2.take st1.length)
/-- a clause's class, by a table -/
def subT : List (String × Bool) → String → Option Bool
  | [], _ => none
  | (D, b) :: l, C => if D = C then some b else subT l C
/-- try: b except C as slot i: s; sub: is the class caught? -/
def sTry (b : Sx) (sub : String → Option Bool) (i : Nat) (s : Sx) : Sx := fun env st => match b env st with
  | .exc C fs xs env1 st1 => (match sub C with
      | some true => (match s (env1.set i (some (.exn C fs xs))) st1 with
        | .ok (.rt d) st2 => if d.gnd = true then .ok (.rt d) st2 else .bad
        | _ => .bad)
      | some false => .exc C fs xs env1 st1
      | none => .bad)
  | r => r

/-! ### functions -/
/-- what a function hands back: a live list of its own is built no further; its own live objects go -/
def finR (base : Nat) (d : D) (st : Sto) : R D := match d with
  | .ref k => if k < base then .ok (.ref k) (st.take base) else (match st[k]? with
    | some (.lst xs) => .ok (.lst xs) (st.take base)
    | _ => .bad)
  | d => if d.gnd then .ok d (st.take base) else .bad
/-- .. a live list of its own stays so -/
def finL (base : Nat) (d : D) (st : Sto) : R D := match d with
  | .ref k => if k < base then .ok (.ref k) (st.take base) else (match st[k]? with
    | some (.lst xs) => .ok (.ref base) (st.take base ++ [.lst xs])
    | _ => .bad)
  | d => if d.gnd then .ok d (st.take base) else .bad
def fnS (fin : Nat → D → Sto → R D) (n slots : Nat) (b : Sx) : Fn := fun ds st => if ds.length = n then (match b (ds.map some ++ List.replicate (slots - n) none) st with
  | .ok (.nx _) st1 => fin st.length .non st1
  | .ok (.rt d) st1 => fin st.length d st1
  | .exc C fs xs _ st1 => .exc C fs xs (st1.take st.length)
  | _ => .bad) else .bad
/-! ### operations on values as they stand -/
def mulOk (i j : Int) : Bool := decide ((-(2 ^ 64) < i ∧ i < 2 ^ 64) ∨ (-(2 ^ 64) < j ∧ j < 2 ^ 64) ∨ i.natAbs.log2 + j.natAbs.log2 < 1000000)
def oAdd : D → D → Option D
  | .int i, .int j => some (.int (i + j))
  | .str x, .str y => if x.length + y.length ≤ 1000000 then some (.str (x ++ y)) else none
  | .tup xs, .tup ys => if xs.length + ys.length ≤ 1000000 then some (.tup (xs ++ ys)) else none
  | .lst xs, .lst ys => if xs.length + ys.length ≤ 1000000 then some (.lst (xs ++ ys)) else none
  | _, _ => none
def oSub : D → D → Option D
  | .int i, .int j => some (.int (i - j))
  | _, _ => none
def oMul : D → D → Option D
  | .int i, .int j => if mulOk i j then some (.int (i * j)) else none
  | .lst xs, .int k => if -1000000 ≤ k ∧ k ≤ 1000000 ∧ xs.length * k.toNat ≤ 1000000 then some (.lst (List.replicate k.toNat xs).flatten) else none
  | .tup xs, .int k => if 1 ≤ k ∧ k ≤ 1000 ∧ 0 < xs.length ∧ xs.length ≤ 1000 then some (.tup (List.replicate k.toNat xs).flatten) else none
  | _, _ => none
def oDiv : D → D → Option D
  | .int i, .int j => if 0 < j ∧ j.natAbs.log2 < 9000 then some (.int (i / j)) else none
  | _, _ => none
def oMod : D → D → Option D
  | .int i, .int j => if 0 < j then some (.int (i % j)) else none
  | _, _ => none
def oPow : D → D → Option D
  | .int i, .int j => if 0 ≤ j ∧ j ≤ 1000000 ∧ i.natAbs < 2 ^ 64 then some (.int (i ^ j.toNat)) else none
  | _, _ => none
def oNeg : D → Option D
  | .int i => some (.int (-i))
  | _ => none
def oLt : D → D → Option D
  | .int i, .int j => some (.bl (decide (i < j)))
  | _, _ => none
def oLe : D → D → Option D
  | .int i, .int j => some (.bl (decide (i ≤ j)))
  | _, _ => none
def oGt : D → D → Option D
  | .int i, .int j => some (.bl (decide (j < i)))
  | _, _ => none
def oGe : D → D → Option D
  | .int i, .int j => some (.bl (decide (j ≤ i)))
  | _, _ => none
def oEq (x y : D) : Option D := if x.plain 60 = true ∧ y.plain 60 = true then some (.bl (x.eqv y)) else none
def oNe (x y : D) : Option D := if x.plain 60 = true ∧ y.plain 60 = true then some (.bl (!x.eqv y)) else none
def oIsN : D → D → Option D
  | x, .non => some (.bl (match x with | .non => true | _ => false))
  | _, _ => none
def oNotN : D → D → Option D
  | x, .non => some (.bl (match x with | .non => false | _ => true))
  | _, _ => none
def D.flat : D → Bool
  | .non => true
  | .bl _ => true
  | .int _ => true
  | .str _ => true
  | _ => false
def isInD (x y : D) : Option Bool := match y with
  | .tup ys => if x.plain 60 = true ∧ D.plains 59 ys = true then some (ys.any fun z => z.eqv x) else none
  | .lst ys => if x.plain 60 = true ∧ D.plains 59 ys = true then some (ys.any fun z => z.eqv x) else none
  | .str z => (match x with
    | .str w => (match w.cps.toList with
      | [c] => some (decide (c ∈ z.cps.toList))
      | _ => none)
    | _ => none)
  | _ => none
def oIn (x y : D) : Option D := (isInD x y).map D.bl
def oNotIn (x y : D) : Option D := (isInD x y).map fun b => .bl (!b)
def oIx : D → D → Option D
  | .tup xs, .int i => (ixD xs.length i).bind fun j => xs[j]?
  | .lst xs, .int i => (ixD xs.length i).bind fun j => xs[j]?
  | .str z, .int i => if z.length ≤ 1000000 then (ixD z.cps.toList.length i).bind fun j => (z.cps.toList[j]?).map fun c => .str ⟨#[c]⟩ else none
  | _, _ => none
def sIxD (n d : Nat) : Option Int → Nat
  | none => d
  | some v => if v < 0 then (v + (n : Int)).toNat else min v.toNat n
def cutD (xs : List D) (lo hi : Option Int) : List D := (xs.drop (sIxD xs.length 0 lo)).take (sIxD xs.length xs.length hi - sIxD xs.length 0 lo)
def oSl : D → Option Int → Option Int → Option D
  | .tup xs, lo, hi => some (.tup (cutD xs lo hi))
  | .lst xs, lo, hi => some (.lst (cutD xs lo hi))
  | .scr xs, lo, hi => some (.lst (cutD xs lo hi))
  | .str z, lo, hi => if z.length ≤ 1000000 then some (.str ⟨((z.cps.toList.drop (sIxD z.length 0 lo)).take (sIxD z.length z.length hi - sIxD z.length 0 lo)).toArray⟩) else none
  | _, _, _ => none
def pNone : Env → Sto → R (Option Int) := fun _ st => .ok none st
def pSome (a : Ex) : Env → Sto → R (Option Int) := fun env st => (a env st).bnd fun x st1 => match x with
  | .int i => .ok (some i) st1
  | _ => .bad
def eSl (a : Ex) (lo hi : Env → Sto → R (Option Int)) : Ex := fun env st => (a env st).bnd fun x st1 => (lo env st1).bnd fun l st2 => (hi env st2).bnd fun h st3 => R.of (oSl (view st3 x) l h) st3
/-! calls of built-ins -/
def cLen : List D → Option D
  | [.tup xs] => some (.int xs.length)
  | [.lst xs] => some (.int xs.length)
  | [.scr xs] => some (.int xs.length)
  | [.str z] => if z.length ≤ 1000000 then some (.int z.length) else none
  | _ => none
def cAbs : List D → Option D
  | [.int i] => some (.int (if i < 0 then -i else i))
  | _ => none
def cInt : List D → Option D
  | [.int i] => some (.int i)
  | [.bl k] => some (.int (if k then 1 else 0))
  | _ => none
def cMin : List D → Option D
  | [.int i, .int j] => some (.int (if j < i then j else i))
  | _ => none
def cMax : List D → Option D
  | [.int i, .int j] => some (.int (if j > i then j else i))
  | _ => none
def cTuple : List D → Option D
  | [.tup xs] => some (.tup xs)
  | [.lst xs] => some (.tup xs)
  | [.scr xs] => some (.tup xs)
  | _ => none
def cList : List D → Option D
  | [.tup xs] => some (.lst xs)
  | [.lst xs] => some (.lst xs)
  | [.scr xs] => some (.lst xs)
  | _ => none
def D.int? : D → Option Int
  | .int i => some i
  | _ => none
def cSum : List D → Option D
  | [.lst xs] => (xs.mapM D.int?).map fun ns => .int ns.sum
  | [.tup xs] => (xs.mapM D.int?).map fun ns => .int ns.sum
  | _ => none
def insI (x : Int) : List Int → List Int
  | [] => [x]
  | y :: ys => if x ≤ y then x :: y :: ys else y :: insI x ys
def sortI : List Int → List Int
  | [] => []
  | x :: xs => insI x (sortI xs)
def D.pair? : D → Option (Int × Int)
  | .tup [.int a, .int b] => if 0 ≤ a ∧ a < 1000000 ∧ 0 ≤ b ∧ b < 1000000 then some (a, b) else none
  | _ => none
def pairD (p : Int × Int) : D := .tup [.int p.1, .int p.2]
def codeP (p : Int × Int) : Int := p.1 * 1000000 + p.2
def insP (x : Int × Int) : List (Int × Int) → List (Int × Int)
  | [] => [x]
  | y :: ys => if codeP x ≤ codeP y then x :: y :: ys else y :: insP x ys
def sortP : List (Int × Int) → List (Int × Int)
  | [] => []
  | x :: xs => insP x (sortP xs)
def cSorted : List D → Option D
  | [.lst xs] => (match xs.mapM D.int? with
    | some ns => if ns.length ≤ 1000000 then some (.lst ((sortI ns).map D.int)) else none
    | none => (xs.mapM D.pair?).bind fun ps => if ps.length < 64 then some (.lst ((sortP ps).map pairD)) else none)
  | _ => none
/-- a call of a built-in -/
def eC1 (f : List D → Option D) (as : Ax) : Ex := fun env st => (as env st).bnd fun xs st1 => R.of (f (xs.map (view st1))) st1
/-- list(range(a, b)), tuple(range(a, b)) -/
def rgD (a b : Int) : List D := (List.range (b - a).toNat).map fun i => .int (a + (i : Nat))
/-- what a for walks -/
def iLst (a : Ex) : Ax := fun env st => (a env st).bnd fun x st1 => match x with
  | .lst xs => .ok xs st1
  | .scr xs => .ok xs st1
  | _ => .bad
def iTpl (a : Ex) : Ax := fun env st => (a env st).bnd fun x st1 => match x with
  | .tup xs => .ok xs st1
  | _ => .bad
def iStr (a : Ex) : Ax := fun env st => (a env st).bnd fun x st1 => match x with
  | .str z => .ok (z.cps.toList.map fun c => D.str ⟨#[c]⟩) st1
  | _ => .bad
def iAny (a : Ex) : Ax := fun env st => (a env st).bnd fun x st1 => match x with
  | .lst xs => .ok xs st1
  | .scr xs => .ok xs st1
  | .tup xs => .ok xs st1
  | .str z => .ok (z.cps.toList.map fun c => D.str ⟨#[c]⟩) st1
  | _ => .bad
def iRng1 (as : Ax) : Ax := fun env st => (as env st).bnd fun xs st1 => match xs with
  | [.int j] => if -1000000 ≤ j ∧ j ≤ 1000000 then .ok (rgD 0 j) st1 else .bad
  | _ => .bad
def iRng2 (as : Ax) : Ax := fun env st => (as env st).bnd fun xs st1 => match xs with
  | [.int i, .int j] => if -1000000 ≤ i ∧ i ≤ 1000000 ∧ -1000000 ≤ j ∧ j ≤ 1000000 then .ok (rgD i j) st1 else .bad
  | _ => .bad
/-- range(i, j, k), k above 0 -/
def rg3N (i j k : Int) : Nat := if i < j then ((j - i - 1) / k + 1).toNat else 0
def rg3D (i j k : Int) : List D := (List.range (rg3N i j k)).map fun t => .int (i + (t : Nat) * k)
def iRng3 (as : Ax) : Ax := fun env st => (as env st).bnd fun xs st1 => match xs with
  | [.int i, .int j, .int k] => if 0 < k ∧ k ≤ 1000 ∧ -1000000 ≤ i ∧ i ≤ 1000000 ∧ -1000000 ≤ j ∧ j ≤ 1000000 then .ok (rg3D i j k) st1 else .bad
  | _ => .bad
def enumD : Nat → List D → List D
  | _, [] => []
  | i, d :: ds => .tup [.int i, d] :: enumD (i + 1) ds
def iEnumL (a : Ex) : Ax := fun env st => (a env st).bnd fun x st1 => match x with
  | .lst xs => .ok (enumD 0 xs) st1
  | _ => .bad
def iEnumU (a : Ex) : Ax := fun env st => (a env st).bnd fun x st1 => match x with
  | .tup xs => .ok (enumD 0 xs) st1
  | _ => .bad
def iEnum (a : Ex) : Ax := fun env st => (a env st).bnd fun x st1 => match x with
  | .lst xs => .ok (enumD 0 xs) st1
  | .tup xs => .ok (enumD 0 xs) st1
  | _ => .bad
/-! isinstance -/
def D.tyOf (P : Pg) : D → Option (String ⊕ String)
  | .non => some (.inl "NoneType")
  | .bl _ => some (.inl "bool")
  | .int _ => some (.inl "int")
  | .str _ => some (.inl "str")
  | .tup _ => some (.inl "tuple")
  | .lst _ => some (.inl "list")
  | .scr _ => some (.inl "list")
  | .obj C _ _ => if C ∈ P.own then some (.inr C) else none
  | _ => none
def ctF (t c : String ⊕ String) : List ((String ⊕ String) × (String ⊕ String) × Bool) → Option Bool
  | [] => none
  | (a, b, r) :: k => if a = t ∧ b = c then some r else ctF t c k
def isi1 (P : Pg) (t : String ⊕ String) : D → Option Bool
  | .ty n => ctF t (.inl n) P.ct
  | .cls C => ctF t (.inr C) P.ct
  | _ => none
def isiA (P : Pg) (t : String ⊕ String) : List D → Option Bool
  | [] => some false
  | c :: cs => (isi1 P t c).bind fun b => if b then some true else isiA P t cs
def isiC (P : Pg) (t : String ⊕ String) : D → Option Bool
  | .ty n => ctF t (.inl n) P.ct
  | .cls C => ctF t (.inr C) P.ct
  | .tup cs => if cs.all (fun c => (isi1 P t c).isSome) then isiA P t cs else none
  | _ => none
def cIsi (P : Pg) : List D → Option D
  | [x, c] => (x.tyOf P).bind fun t => (isiC P t c).map D.bl
  | _ => none
/-- isinstance of a caught exception -/
def cIsx (P : Pg) : List D → Option D
  | [.exn C _ _, c] => if C ∈ P.exc then (isiC P (.inr C) c).map D.bl else none
  | _ => none
/-! fields -/
def fldD (f : String) : List String → List D → Option D
  | g :: fs, x :: xs => if g = f then some x else fldD f fs xs
  | _, _ => none
/-- e.f of a caught exception -/
def eXf (P : Pg) (a : Ex) (f : String) : Ex := fun env st => (a env st).bnd fun x st1 => match x with
  | .exn C fs xs => if C ∈ P.exc ∧ (C, f) ∈ P.fld then R.of (fldD f fs xs) st1 else .bad
  | _ => .bad
/-- o.f -/
def conD (C f : String) : List ((String × String) × Int) → Option D
  | [] => none
  | (k, i) :: r => if k = (C, f) then some (.int i) else conD C f r
/-- a member of a plain instance: a field, or a number of the class -/
def attrD (P : Pg) (C f : String) (fs : List String) (xs : List D) : Option D := if C ∈ P.own then (if (C, f) ∈ P.fld then fldD f fs xs else if f ∈ fs then none else conD C f P.con) else none
def eFld (P : Pg) (a : Ex) (f : String) : Ex := fun env st => (a env st).bnd fun x st1 => match x with
  | .obj C fs xs => R.of (attrD P C f fs xs) st1
  | .exn _ _ _ => .bad
  | .ref n => (match st1[n]? with
    | some (.ins C fs xs) => R.of (attrD P C f fs xs) st1
    | _ => .bad)
  | _ => .bad
/-- [e for g in src if c], built further -/
def eLcL (src : Ax) (g : Gx) (own : List Nat) (c : Tx) (e : Ex) : Ex := fun env st => (src env st).bnd fun ds st1 => (lcL g c e st1.length ds (wipeE env own) (st1 ++ [.lst []])).bnd fun _ st2 => .ok (.ref st1.length) (st2.take (st1.length + 1))
/-- xs + ys, a new list that is built further -/
def eAddL (a b : Ex) : Ex := fun env st => (a env st).bnd fun x st1 => (b env st1).bnd fun y st2 => match view st2 x, view st2 y with
  | .lst xs, .lst ys => if xs.length + ys.length ≤ 1000000 ∧ D.gnds xs = true ∧ D.gnds ys = true then .ok (.ref st2.length) (st2 ++ [.lst (xs ++ ys)]) else .bad
  | _, _ => .bad
/-- the places ix of xs -/
def perm {α : Type} (ix : List Nat) (xs : List α) : List α := ix.filterMap fun i => xs[i]?
/-- o.f, f a property of the class C whose getter is F -/
def ePrp (C : String) (F : Fn) (a : Ex) : Ex := fun env st => (a env st).bnd fun x st1 => match x with
  | .obj C' fs xs => if C' = C then (match F [.obj C' fs xs] st1 with
    | .ok d st2 => .ok d st2
    | _ => .bad) else .bad
  | _ => .bad
def eBad : Ex := fun _ _ => .bad
def sBad : Sx := fun _ _ => .bad
end Cb

set_option Elab.async false
set_option linter.all false
set_option maxRecDepth 100000
/-! CbSem2: more of the functional reading: min of three, list(range(..)). -/
namespace Cb
open PySem (Str)
def cMin3 : List D → Option D
  | [.int i, .int j, .int k] => some (.int (if k < (if j < i then j else i) then k else (if j < i then j else i)))
  | _ => none
def eLrg (a b : Ex) : Ex := fun env st => (a env st).bnd fun x st1 => (b env st1).bnd fun y st2 => match x, y with
  | .int i, .int j => if (-1000000 ≤ i ∧ i ≤ 1000000) ∧ -1000000 ≤ j ∧ j ≤ 1000000 then .ok (.lst (rgD i j)) st2 else .bad
  | _, _ => .bad
end Cb

set_option Elab.async false
set_option linter.all false
set_option maxRecDepth 100000
set_option maxHeartbeats 4000000
/-! CbRel: the functional reading against the machine: what a value, a store, a state stands for. -/
namespace Cb
open PySem PySem.Spec PyProof.Rows L2
abbrev St := L2.St

/-- the exceptions that the suites hold that are run: object, class, dict -/
class Pin where
  is : Addr → Value → Option Addr → Prop
instance (priority := 10) Pin.no : Pin := ⟨fun _ _ _ => False⟩
variable {pin : Pin}
abbrev gaC (K : PySem.W.Frag) (C : String) : Addr := He.ga K (Str.ofString C)
def fsV (ns : List String) (vs : List V) : List (Str × V) := (ns.map Str.ofString).zip vs
/-- a caught exception: its object, whatever its record holds -/
def XO (a : Addr) (cls : Value) (dd : Option Addr) : HO := .ext fun h => ∃ oe vs, h.get? a = some oe ∧ Zc cls dd oe ∧ oe.data = .fields vs
/-- its fields -/
def XF1 (G : Hp) (dd : Option Addr) (ns : List String) (vs : List V) : Prop :=
  ns.length = vs.length ∧ ((ns = [] ∧ dd = none) ∨ ∃ dx fs, dd = some dx ∧ G dx = some (.xd fs) ∧ ∀ (j : Nat) (f : String) (v : V), ns[j]? = some f → vs[j]? = some v → fs.lookup (Str.ofString f) = some v)

mutual
/-- the value v stands for the data d: n live objects, the i-th at m i; G what stands for good -/
inductive Rp [Pin] (K : PySem.W.Frag) (m : Nat → Addr) (n : Nat) (G : Hp) : V → D → Prop
  | non : Rp K m n G .non .non
  | bl (b : Bool) : Rp K m n G (.bl b) (.bl b)
  | int (i : Int) : Rp K m n G (.int i) (.int i)
  | str (x : Str) : Rp K m n G (.str x) (.str x)
  | tup {a : Addr} {vs : List V} {ds : List D} : SqT K G a vs → RpL K m n G vs ds → Rp K m n G (.ref a) (.tup ds)
  | lst {a : Addr} {vs : List V} {ds : List D} : G a = some (.lst vs) → RpL K m n G vs ds → Rp K m n G (.ref a) (.lst ds)
  | scr {a : Addr} {vs : List V} {ds : List D} : SqL K G a vs → RpL K m n G vs ds → Rp K m n G (.ref a) (.scr ds)
  | obj {a dx : Addr} {C : String} {ns : List String} {vs : List V} {ds : List D} : G a = some (.ins (gaC K C) dx (fsV ns vs)) → ns.length = vs.length → RpL K m n G vs ds → Rp K m n G (.ref a) (.obj C ns ds)
  | exn {a : Addr} {dd : Option Addr} {C : String} {ns : List String} {vs : List V} {ds : List D} : Pin.is a (.ref (gaC K C)) dd → XF1 G dd ns vs → RpL K m n G vs ds → Rp K m n G (.ref a) (.exn C ns ds)
  | ref {i : Nat} : i < n → Rp K m n G (.ref (m i)) (.ref i)
  | cls (C : String) : Rp K m n G (.ref (gaC K C)) (.cls C)
  | ty (s : String) : Rp K m n G (.ty s) (.ty s)
inductive RpL [Pin] (K : PySem.W.Frag) (m : Nat → Addr) (n : Nat) (G : Hp) : List V → List D → Prop
  | nil : RpL K m n G [] []
  | cons {v : V} {vs : List V} {d : D} {ds : List D} : Rp K m n G v d → RpL K m n G vs ds → RpL K m n G (v :: vs) (d :: ds)
end

section
variable {K : PySem.W.Frag} {m : Nat → Addr} {n : Nat} {G : Hp}
theorem rp_non : Rp K m n G .non .non := .non
theorem rp_bl (b : Bool) : Rp K m n G (.bl b) (.bl b) := .bl b
theorem rp_int (i : Int) : Rp K m n G (.int i) (.int i) := .int i
theorem rp_str (x : Str) : Rp K m n G (.str x) (.str x) := .str x
theorem rp_tup {a : Addr} {vs : List V} {ds : List D} (h : SqT K G a vs) (r : RpL K m n G vs ds) : Rp K m n G (.ref a) (.tup ds) := .tup h r
theorem rp_lst {a : Addr} {vs : List V} {ds : List D} (h : G a = some (.lst vs)) (r : RpL K m n G vs ds) : Rp K m n G (.ref a) (.lst ds) := .lst h r
theorem rp_scr {a : Addr} {vs : List V} {ds : List D} (h : SqL K G a vs) (r : RpL K m n G vs ds) : Rp K m n G (.ref a) (.scr ds) := .scr h r
theorem rp_obj {a dx : Addr} {C : String} {ns : List String} {vs : List V} {ds : List D} (h : G a = some (.ins (gaC K C) dx (fsV ns vs))) (l : ns.length = vs.length) (r : RpL K m n G vs ds) : Rp K m n G (.ref a) (.obj C ns ds) := .obj h l r
theorem rp_cls (C : String) : Rp K m n G (.ref (gaC K C)) (.cls C) := .cls C
theorem rp_ty (s : String) : Rp K m n G (.ty s) (.ty s) := .ty s
theorem rp_ref {i : Nat} (h : i < n) : Rp K m n G (.ref (m i)) (.ref i) := .ref h
theorem rpl_nil : RpL K m n G [] [] := .nil
theorem rpl_cons {v : V} {vs : List V} {d : D} {ds : List D} (h : Rp K m n G v d) (r : RpL K m n G vs ds) : RpL K m n G (v :: vs) (d :: ds) := .cons h r
end
theorem same_rd {G G' : Hp} (s : Same G G') {a : Addr} {u : HO} (h : Rd G a u) : Rd G' a u := by
  rcases h with h | ⟨o, h⟩
  · exact .inl (s _ _ h)
  · exact .inr ⟨o, s _ _ h⟩
theorem same_t {K : PySem.W.Frag} {G G' : Hp} (s : Same G G') {a : Addr} {xs : List V} (h : SqT K G a xs) : SqT K G' a xs := by
  rcases h with h | h
  · exact .inl (same_rd s h)
  · exact .inr h
theorem same_l {K : PySem.W.Frag} {G G' : Hp} (s : Same G G') {a : Addr} {xs : List V} (h : SqL K G a xs) : SqL K G' a xs := by
  rcases h with h | h
  · exact .inl (same_rd s h)
  · exact .inr h
theorem XF1.mono {G G' : Hp} (s : Same G G') {dd : Option Addr} {ns : List String} {vs : List V} (h : XF1 G dd ns vs) : XF1 G' dd ns vs := by
  obtain ⟨e, h⟩ := h
  refine ⟨e, ?_⟩
  rcases h with h | ⟨dx, fs, h1, h2, h3⟩
  · exact .inl h
  · exact .inr ⟨dx, fs, h1, s _ _ h2, h3⟩

section
variable {K : PySem.W.Frag} {m m' : Nat → Addr} {n n' : Nat} {G G' : Hp}
mutual
theorem Rp.mono (s : Same G G') (hm : ∀ i, i < n → m' i = m i) (hn : n ≤ n') : ∀ (d : D) (v : V), Rp K m n G v d → Rp K m' n' G' v d
  | .non, _, h => by cases h; exact .non
  | .bl _, _, h => by cases h; exact .bl _
  | .int _, _, h => by cases h; exact .int _
  | .str _, _, h => by cases h; exact .str _
  | .tup ds, _, h => by cases h with | tup h1 h2 => exact .tup (same_t s h1) (RpL.mono s hm hn ds _ h2)
  | .lst ds, _, h => by cases h with | lst h1 h2 => exact .lst (s _ _ h1) (RpL.mono s hm hn ds _ h2)
  | .scr ds, _, h => by cases h with | scr h1 h2 => exact .scr (same_l s h1) (RpL.mono s hm hn ds _ h2)
  | .obj _ _ ds, _, h => by cases h with | obj h1 h2 h3 => exact .obj (s _ _ h1) h2 (RpL.mono s hm hn ds _ h3)
  | .exn _ _ ds, _, h => by cases h with | exn h1 h2 h3 => exact .exn h1 (h2.mono s) (RpL.mono s hm hn ds _ h3)
  | .ref i, _, h => by
    cases h with
    | ref h =>
      rw [← hm i h]
      exact .ref (Nat.lt_of_lt_of_le h hn)
  | .cls _, _, h => by cases h; exact .cls _
  | .ty _, _, h => by cases h; exact .ty _
theorem RpL.mono (s : Same G G') (hm : ∀ i, i < n → m' i = m i) (hn : n ≤ n') : ∀ (ds : List D) (vs : List V), RpL K m n G vs ds → RpL K m' n' G' vs ds
  | [], _, h => by cases h; exact .nil
  | d :: ds, _, h => by cases h with | cons h1 h2 => exact .cons (Rp.mono s hm hn d _ h1) (RpL.mono s hm hn ds _ h2)
end
mutual
/-- what names no exception stands in any suite -/
theorem Rp.any : ∀ (d : D) (v : V), @Rp Pin.no K m n G v d → Rp K m n G v d
  | .non, _, h => by cases h; exact rp_non
  | .bl _, _, h => by cases h; exact rp_bl _
  | .int _, _, h => by cases h; exact rp_int _
  | .str _, _, h => by cases h; exact rp_str _
  | .tup ds, _, h => by cases h with | tup h1 h2 => exact rp_tup h1 (RpL.any ds _ h2)
  | .lst ds, _, h => by cases h with | lst h1 h2 => exact rp_lst h1 (RpL.any ds _ h2)
  | .scr ds, _, h => by cases h with | scr h1 h2 => exact rp_scr h1 (RpL.any ds _ h2)
  | .obj _ _ ds, _, h => by cases h with | obj h1 h2 h3 => exact rp_obj h1 h2 (RpL.any ds _ h3)
  | .exn _ _ ds, _, h => by cases h with | exn h1 h2 h3 => exact h1.elim
  | .ref _, _, h => by cases h with | ref h1 => exact rp_ref h1
  | .cls _, _, h => by cases h; exact rp_cls _
  | .ty _, _, h => by cases h; exact rp_ty _
theorem RpL.any : ∀ (ds : List D) (vs : List V), @RpL Pin.no K m n G vs ds → RpL K m n G vs ds
  | [], _, h => by cases h; exact rpl_nil
  | d :: ds, _, h => by cases h with | cons h1 h2 => exact rpl_cons (Rp.any d _ h1) (RpL.any ds _ h2)
end
mutual
/-- what names no live object stands without them -/
theorem Rp.gnd : ∀ (d : D) (v : V), d.gnd = true → Rp K m n G v d → @Rp Pin.no K m' 0 G v d
  | .non, _, _, h => by cases h; exact rp_non
  | .bl _, _, _, h => by cases h; exact rp_bl _
  | .int _, _, _, h => by cases h; exact rp_int _
  | .str _, _, _, h => by cases h; exact rp_str _
  | .tup ds, _, g, h => by cases h with | tup h1 h2 => exact rp_tup h1 (RpL.gnd ds _ g h2)
  | .lst ds, _, g, h => by cases h with | lst h1 h2 => exact rp_lst h1 (RpL.gnd ds _ g h2)
  | .scr ds, _, g, h => by cases h with | scr h1 h2 => exact rp_scr h1 (RpL.gnd ds _ g h2)
  | .obj _ _ ds, _, g, h => by cases h with | obj h1 h2 h3 => exact rp_obj h1 h2 (RpL.gnd ds _ g h3)
  | .exn _ _ ds, _, g, h => by cases g
  | .ref _, _, g, _ => by cases g
  | .cls _, _, _, h => by cases h; exact rp_cls _
  | .ty _, _, _, h => by cases h; exact rp_ty _
theorem RpL.gnd : ∀ (ds : List D) (vs : List V), D.gnds ds = true → RpL K m n G vs ds → @RpL Pin.no K m' 0 G vs ds
  | [], _, _, h => by cases h; exact rpl_nil
  | d :: ds, _, g, h => by
    obtain ⟨g1, g2⟩ := Bool.and_eq_true_iff.mp (show (d.gnd && D.gnds ds) = true from g)
    cases h with | cons h1 h2 => exact rpl_cons (Rp.gnd d _ g1 h1) (RpL.gnd ds _ g2 h2)
end
theorem RpL.length : ∀ {ds : List D} {vs : List V}, RpL K m n G vs ds → vs.length = ds.length
  | [], _, h => by cases h; rfl
  | _ :: _, _, h => by cases h with | cons _ h2 => rw [List.length_cons, List.length_cons, RpL.length h2]
theorem RpL.get : ∀ {ds : List D} {vs : List V} {i : Nat} {d : D}, RpL K m n G vs ds → ds[i]? = some d → ∃ v, vs[i]? = some v ∧ Rp K m n G v d
  | [], _, _, _, _, e => by simp at e
  | x :: _, _, 0, d, h, e => by
    cases h with
    | cons h1 _ =>
      have e' : x = d := by simpa using e
      exact ⟨_, rfl, e' ▸ h1⟩
  | _ :: _, _, i + 1, d, h, e => by
    cases h with
    | cons _ h2 =>
      obtain ⟨v, h3, h4⟩ := RpL.get (i := i) h2 (by simpa using e)
      exact ⟨v, by simpa using h3, h4⟩
theorem RpL.at : ∀ {ds : List D} {vs : List V} {i : Nat} {v : V}, RpL K m n G vs ds → vs[i]? = some v → ∃ d, ds[i]? = some d ∧ Rp K m n G v d
  | [], _, _, _, h, e => by cases h; simp at e
  | x :: _, _, 0, v, h, e => by
    cases h with
    | @cons y _ _ _ h1 _ =>
      have e' : y = v := by simpa using e
      exact ⟨_, rfl, e' ▸ h1⟩
  | _ :: _, _, i + 1, v, h, e => by
    cases h with
    | cons _ h2 =>
      obtain ⟨d, h3, h4⟩ := RpL.at (i := i) h2 (by simpa using e)
      exact ⟨d, by simpa using h3, h4⟩
theorem RpL.app : ∀ {ds : List D} {vs : List V} {es : List D} {ws : List V}, RpL K m n G vs ds → RpL K m n G ws es → RpL K m n G (vs ++ ws) (ds ++ es)
  | [], _, _, _, h, k => by cases h; exact k
  | _ :: _, _, _, _, h, k => by cases h with | cons h1 h2 => exact .cons h1 (RpL.app h2 k)
theorem RpL.one {v : V} {d : D} (h : Rp K m n G v d) : RpL K m n G [v] [d] := .cons h .nil
theorem RpL.takeR : ∀ {ds : List D} {vs : List V} (k : Nat), RpL K m n G vs ds → RpL K m n G (vs.take k) (ds.take k)
  | _, _, 0, _ => .nil
  | [], _, _ + 1, h => by cases h; exact .nil
  | _ :: _, _, k + 1, h => by cases h with | cons h1 h2 => exact .cons h1 (RpL.takeR k h2)
theorem RpL.dropR : ∀ {ds : List D} {vs : List V} (k : Nat), RpL K m n G vs ds → RpL K m n G (vs.drop k) (ds.drop k)
  | _, _, 0, h => h
  | [], _, _ + 1, h => by cases h; exact .nil
  | _ :: _, _, k + 1, h => by cases h with | cons _ h2 => exact RpL.dropR k h2
theorem RpL.setR : ∀ {ds : List D} {vs : List V} {v : V} {d : D} (k : Nat), RpL K m n G vs ds → Rp K m n G v d → RpL K m n G (vs.set k v) (ds.set k d)
  | [], _, _, _, _, h, _ => by cases h; exact .nil
  | _ :: _, _, _, _, 0, h, r => by cases h with | cons _ h2 => exact .cons r h2
  | _ :: _, _, _, _, k + 1, h, r => by cases h with | cons h1 h2 => exact .cons h1 (RpL.setR k h2 r)
end

/-! ### the store, the state -/
def SO.live : SO → Bool
  | .dead => false
  | _ => true
def SOk (K : PySem.W.Frag) (G H : Hp) (a : Addr) : SO → Prop
  | .lst xs => G a = none ∧ ∃ vs, H a = some (.lst vs) ∧ @RpL Pin.no K (fun _ => 0) 0 G vs xs
  | .ins C ns xs => G a = none ∧ ∃ dx vs, H a = some (.ins (gaC K C) dx (fsV ns vs)) ∧ ns.length = vs.length ∧ @RpL Pin.no K (fun _ => 0) 0 G vs xs
  | .dct _ => False
  | .dead => True
structure SR (K : PySem.W.Frag) (G : Hp) (m : Nat → Addr) (st : Sto) (H : Hp) : Prop where
  ex : Same G H
  at_ : ∀ n o, st[n]? = some o → SOk K G H (m n) o
  inj : ∀ i j o p, st[i]? = some o → st[j]? = some p → o.live = true → p.live = true → m i = m j → i = j
/-- from state to state: what stands for good, the live objects' places -/
structure Tr (G : Hp) (m : Nat → Addr) (n : Nat) (G' : Hp) (m' : Nat → Addr) (n' : Nat) : Prop where
  ex : Same G G'
  mm : ∀ i, i < n → m' i = m i
  le : n ≤ n'
theorem Tr.refl {G : Hp} {m : Nat → Addr} {n : Nat} : Tr G m n G m n := ⟨Same.refl _, fun _ _ => rfl, Nat.le_refl _⟩
theorem Tr.trans {G G1 G2 : Hp} {m m1 m2 : Nat → Addr} {n n1 n2 : Nat} (a : Tr G m n G1 m1 n1) (b : Tr G1 m1 n1 G2 m2 n2) : Tr G m n G2 m2 n2 :=
  ⟨a.ex.trans b.ex, fun i h => (b.mm i (Nat.lt_of_lt_of_le h a.le)).trans (a.mm i h), Nat.le_trans a.le b.le⟩
theorem Rp.tr {K : PySem.W.Frag} {G G' : Hp} {m m' : Nat → Addr} {n n' : Nat} {d : D} {v : V} (t : Tr G m n G' m' n') (h : Rp K m n G v d) : Rp K m' n' G' v d := h.mono t.ex t.mm t.le d v
theorem RpL.tr {K : PySem.W.Frag} {G G' : Hp} {m m' : Nat → Addr} {n n' : Nat} {d : List D} {v : List V} (t : Tr G m n G' m' n') (h : RpL K m n G v d) : RpL K m' n' G' v d := h.mono t.ex t.mm t.le d v
theorem RpL.up {K : PySem.W.Frag} {G G' : Hp} {m m' : Nat → Addr} {n : Nat} {d : List D} {v : List V} (s : Same G G') (h : @RpL Pin.no K m 0 G v d) : RpL K m' n G' v d := (h.any d v).mono s (fun _ h => absurd h (Nat.not_lt_zero _)) (Nat.zero_le _) d v
theorem Rp.up {K : PySem.W.Frag} {G G' : Hp} {m m' : Nat → Addr} {n : Nat} {d : D} {v : V} (s : Same G G') (h : @Rp Pin.no K m 0 G v d) : Rp K m' n G' v d := (h.any d v).mono s (fun _ h => absurd h (Nat.not_lt_zero _)) (Nat.zero_le _) d v
theorem SOk.mono {K : PySem.W.Frag} {G G' H H' : Hp} {a : Addr} {o : SO} (s : Same G G') (hn : o.live = true → G a = none → G' a = none) (hh : o.live = true → H' a = H a) (h : SOk K G H a o) : SOk K G' H' a o := by
  cases o with
  | lst xs =>
    obtain ⟨g, vs, e, r⟩ := h
    exact ⟨hn rfl g, vs, (hh rfl).trans e, r.up s⟩
  | ins C ns xs =>
    obtain ⟨g, dx, vs, e, l, r⟩ := h
    exact ⟨hn rfl g, dx, vs, (hh rfl).trans e, l, r.up s⟩
  | dct kvs => exact h.elim
  | dead => trivial
theorem SOk.there {K : PySem.W.Frag} {G H : Hp} {a : Addr} {o : SO} (h : SOk K G H a o) (l : o.live = true) : G a = none ∧ ∃ u, H a = some u := by
  cases o with
  | lst xs =>
    obtain ⟨g, vs, e, _⟩ := h
    exact ⟨g, _, e⟩
  | ins C ns xs =>
    obtain ⟨g, dx, vs, e, _⟩ := h
    exact ⟨g, _, e⟩
  | dct kvs => exact h.elim
  | dead => cases l
theorem same_new {H : Hp} {p : Addr} {o : HO} (h : H p = none) : Same H (upd H p o) := fun a u e => by
  rw [upd_ne (ne_of_none e h)]
  exact e

section
variable {K : PySem.W.Frag} {m : Nat → Addr} {st : Sto} {G H : Hp}
theorem SR.free (S : SR K G m st H) {p : Addr} (h : H p = none) : G p = none := S.ex.free h
theorem SR.take (S : SR K G m st H) (k : Nat) : SR K G m (st.take k) H := by
  have key : ∀ n o, (st.take k)[n]? = some o → st[n]? = some o := fun n o e => by
    rw [List.getElem?_take] at e
    split at e
    · exact e
    · cases e
  exact ⟨S.ex, fun n o e => S.at_ n o (key n o e), fun i j o p e1 e2 => S.inj i j o p (key i o e1) (key j p e2)⟩
/-- a new object stands for good -/
theorem SR.new (S : SR K G m st H) {p : Addr} {o : HO} (h : H p = none) : SR K (upd G p o) m st (upd H p o) := by
  refine ⟨fun a u e => ?_, fun n x e => ?_, S.inj⟩
  · by_cases hp : a = p
    · subst hp
      rw [upd_same] at e
      rw [upd_same, e]
    · rw [upd_ne hp] at e
      rw [upd_ne hp]
      exact S.ex a u e
  · have k := S.at_ n x e
    have ne : x.live = true → m n ≠ p := fun l z => by
      obtain ⟨_, u, hu⟩ := k.there l
      rw [z, h] at hu
      cases hu
    exact k.mono (same_new (S.free h)) (fun l g => by rw [upd_ne (ne l)]; exact g) fun l => upd_ne (ne l)
theorem SR.trNew (S : SR K G m st H) {p : Addr} {o : HO} (h : H p = none) : Tr G m st.length (upd G p o) m st.length := ⟨same_new (S.free h), fun _ _ => rfl, Nat.le_refl _⟩
/-- a new live object at p -/
theorem SR.push (S : SR K G m st H) {p : Addr} {u : HO} {o : SO} (h : H p = none) (hl : o.live = true) (ok : SOk K G (upd H p u) p o) :
    SR K G (fun i => if i = st.length then p else m i) (st ++ [o]) (upd H p u) := by
  have at1 : ∀ n x, (st ++ [o])[n]? = some x → (n < st.length ∧ st[n]? = some x) ∨ (n = st.length ∧ x = o) := fun n x e => by
    by_cases hn : n < st.length
    · rw [List.getElem?_append_left hn] at e
      exact .inl ⟨hn, e⟩
    · rw [List.getElem?_append_right (by omega)] at e
      have hz : n - st.length = 0 := by
        by_cases z : n - st.length = 0
        · exact z
        · rw [List.getElem?_eq_none (by simp; omega)] at e
          cases e
      rw [hz] at e
      exact .inr ⟨by omega, by simpa using e.symm⟩
  have ne : ∀ n x, st[n]? = some x → x.live = true → m n ≠ p := fun n x e l z => by
    obtain ⟨_, u, hu⟩ := (S.at_ n x e).there l
    rw [z, h] at hu
    cases hu
  refine ⟨fun a u e => ?_, fun n x e => ?_, fun i j x y e1 e2 l1 l2 eq => ?_⟩
  · rw [upd_ne (fun z => by rw [z, S.free h] at e; cases e)]
    exact S.ex a u e
  · rcases at1 n x e with ⟨hn, e⟩ | ⟨rfl, rfl⟩
    · simp only [if_neg (Nat.ne_of_lt hn)]
      exact (S.at_ n x e).mono (Same.refl _) (fun _ g => g) fun l => upd_ne (ne n x e l)
    · simp only [if_true]
      exact ok
  · rcases at1 i x e1 with ⟨hi, f1⟩ | ⟨rfl, rfl⟩ <;> rcases at1 j y e2 with ⟨hj, f2⟩ | ⟨rfl, rfl⟩
    · simp only [if_neg (Nat.ne_of_lt hi), if_neg (Nat.ne_of_lt hj)] at eq
      exact S.inj i j x y f1 f2 l1 l2 eq
    · simp only [if_neg (Nat.ne_of_lt hi), if_true] at eq
      exact absurd eq (ne i x f1 l1)
    · simp only [if_neg (Nat.ne_of_lt hj), if_true] at eq
      exact absurd eq.symm (ne j y f2 l2)
    · rfl
theorem SR.trPush (S : SR K G m st H) {p : Addr} {o : SO} : Tr G m st.length G (fun i => if i = st.length then p else m i) (st ++ [o]).length :=
  ⟨Same.refl _, fun i h => by simp only [if_neg (Nat.ne_of_lt h)], by simp⟩
/-- the live object i changes -/
theorem SR.set (S : SR K G m st H) {i : Nat} {o o' : SO} {u : HO} (e : st[i]? = some o) (l : o.live = true) (ok : SOk K G (upd H (m i) u) (m i) o') :
    SR K G m (st.set i o') (upd H (m i) u) := by
  have hi : i < st.length := (List.getElem?_eq_some_iff.mp e).1
  obtain ⟨gi, _⟩ := (S.at_ i o e).there l
  have at1 : ∀ n x, (st.set i o')[n]? = some x → (n ≠ i ∧ st[n]? = some x) ∨ (n = i ∧ x = o') := fun n x q => by
    by_cases hn : n = i
    · subst hn
      rw [List.getElem?_set_self hi] at q
      exact .inr ⟨rfl, by simpa using q.symm⟩
    · rw [List.getElem?_set_ne (Ne.symm hn)] at q
      exact .inl ⟨hn, q⟩
  refine ⟨fun a v q => ?_, fun n x q => ?_, fun j k x y e1 e2 l1 l2 eq => ?_⟩
  · rw [upd_ne (fun z => by rw [z, gi] at q; cases q)]
    exact S.ex a v q
  · rcases at1 n x q with ⟨hn, q⟩ | ⟨rfl, rfl⟩
    · exact (S.at_ n x q).mono (Same.refl _) (fun _ g => g) fun lx => upd_ne fun z => hn (S.inj n i x o q e lx l z)
    · exact ok
  · rcases at1 j x e1 with ⟨hj, f1⟩ | ⟨rfl, rfl⟩ <;> rcases at1 k y e2 with ⟨hk, f2⟩ | ⟨rfl, rfl⟩
    · exact S.inj j k x y f1 f2 l1 l2 eq
    · exact S.inj j _ x o f1 e l1 l eq
    · exact (S.inj k _ y o f2 e l2 l eq.symm).symm
    · rfl
theorem SR.trSet (_ : SR K G m st H) {i : Nat} {o' : SO} : Tr G m st.length G m (st.set i o').length := ⟨Same.refl _, fun _ _ => rfl, by rw [List.length_set]; exact Nat.le_refl _⟩
/-- the live list i is built no further -/
theorem SR.frz (S : SR K G m st H) {i : Nat} {xs : List D} (e : st[i]? = some (.lst xs)) :
    ∃ G', Tr G m st.length G' m (st.set i .dead).length ∧ SR K G' m (st.set i .dead) H ∧ ∀ n, Rp K m n G' (.ref (m i)) (.lst xs) := by
  have hi : i < st.length := (List.getElem?_eq_some_iff.mp e).1
  obtain ⟨g, vs, hv, r⟩ := S.at_ i _ e
  refine ⟨upd G (m i) (.lst vs), ⟨same_new g, fun _ _ => rfl, by rw [List.length_set]; exact Nat.le_refl _⟩, ⟨fun a u q => ?_, fun n x q => ?_, fun j k x y e1 e2 l1 l2 eq => ?_⟩, fun n => .lst upd_same (r.up (same_new g))⟩
  · by_cases ha : a = m i
    · subst ha
      rw [upd_same] at q
      rw [hv, q]
    · rw [upd_ne ha] at q
      exact S.ex a u q
  · by_cases hn : n = i
    · subst hn
      rw [List.getElem?_set_self hi] at q
      cases q
      trivial
    · rw [List.getElem?_set_ne (Ne.symm hn)] at q
      exact (S.at_ n x q).mono (same_new g) (fun lx gx => by rw [upd_ne fun z => hn (S.inj n i x _ q e lx rfl z)]; exact gx) fun _ => rfl
  · have key : ∀ (j : Nat) (x : SO), (st.set i SO.dead)[j]? = some x → x.live = true → st[j]? = some x := fun j x q l => by
      by_cases hj : j = i
      · subst hj
        rw [List.getElem?_set_self hi] at q
        cases q
        cases l
      · rw [List.getElem?_set_ne (Ne.symm hj)] at q
        exact q
    exact S.inj j k x y (key j x e1 l1) (key k y e2 l2) l1 l2 eq
/-- a live instance stands for good -/
theorem SR.frzI (S : SR K G m st H) {i : Nat} {C : String} {fs : List String} {xs : List D} (e : st[i]? = some (.ins C fs xs)) :
    ∃ G', Tr G m st.length G' m (st.set i .dead).length ∧ SR K G' m (st.set i .dead) H ∧ ∀ n, Rp K m n G' (.ref (m i)) (.obj C fs xs) := by
  have hi : i < st.length := (List.getElem?_eq_some_iff.mp e).1
  obtain ⟨g, dx, vs, hv, hl, r⟩ := S.at_ i _ e
  refine ⟨upd G (m i) (.ins (gaC K C) dx (fsV fs vs)), ⟨same_new g, fun _ _ => rfl, by rw [List.length_set]; exact Nat.le_refl _⟩, ⟨fun a u q => ?_, fun n x q => ?_, fun j k x y e1 e2 l1 l2 eq => ?_⟩, fun n => .obj upd_same hl (r.up (same_new g))⟩
  · by_cases ha : a = m i
    · subst ha
      rw [upd_same] at q
      rw [hv, q]
    · rw [upd_ne ha] at q
      exact S.ex a u q
  · by_cases hn : n = i
    · subst hn
      rw [List.getElem?_set_self hi] at q
      cases q
      trivial
    · rw [List.getElem?_set_ne (Ne.symm hn)] at q
      exact (S.at_ n x q).mono (same_new g) (fun lx gx => by rw [upd_ne fun z => hn (S.inj n i x _ q e lx rfl z)]; exact gx) fun _ => rfl
  · have key : ∀ (j : Nat) (x : SO), (st.set i SO.dead)[j]? = some x → x.live = true → st[j]? = some x := fun j x q l => by
      by_cases hj : j = i
      · subst hj
        rw [List.getElem?_set_self hi] at q
        cases q
        cases l
      · rw [List.getElem?_set_ne (Ne.symm hj)] at q
        exact q
    exact S.inj j k x y (key j x e1 l1) (key k y e2 l2) l1 l2 eq
/-- what a value shows as it stands: a live list shows its items -/
theorem view_lst (S : SR K G m st H) {v : V} {d : D} {xs : List D} (r : Rp K m st.length G v d) (e : view st d = .lst xs) : ∃ a vs, v = .ref a ∧ H a = some (.lst vs) ∧ RpL K m st.length G vs xs := by
  cases d with
  | lst ds =>
    cases r with
    | lst h1 h2 =>
      obtain rfl : ds = xs := by simpa [view] using e
      exact ⟨_, _, rfl, S.ex _ _ h1, h2⟩
  | ref n =>
    cases r with
    | ref hn =>
      simp only [view] at e
      split at e
      · rename_i ys q
        obtain rfl : ys = xs := by simpa using e
        obtain ⟨_, vs, hv, rv⟩ := S.at_ n _ q
        exact ⟨_, vs, rfl, hv, rv.up (Same.refl _)⟩
      · cases e
  | _ => simp [view] at e
theorem view_same {d : D} (h : ∀ n, d ≠ .ref n) : view st d = d := by
  cases d <;> first | rfl | exact absurd rfl (h _)
/-- .. anything else stands itself -/
theorem view_else {d e : D} (h : view st d = e) (hl : ∀ xs, e ≠ .lst xs) : d = e := by
  cases d with
  | ref n =>
    simp only [view] at h
    split at h
    · exact absurd h.symm (hl _)
    · exact h
  | _ => exact h
end
end Cb

set_option Elab.async false
set_option linter.all false
set_option maxRecDepth 100000
set_option maxHeartbeats 4000000
/-! CbEx: expressions: what the functional reading says is what the machine does. -/
namespace Cb
open PySem PySem.Spec PyProof.Rows L2
variable {pin : Pin}

def ER [Pin] (K : PySem.W.Frag) (m : Nat → Addr) (n : Nat) (G : Hp) (σ : St) (env : Env) : Prop :=
  env.length = σ.length ∧ ∀ (i : Nat) (d : D), env[i]? = some (some d) → ∃ v, σ[i]? = some (some v) ∧ Rp K m n G v d
theorem ER.tr {K : PySem.W.Frag} {G G' : Hp} {m m' : Nat → Addr} {n n' : Nat} {σ : St} {env : Env} (t : Tr G m n G' m' n') (h : ER K m n G σ env) : ER K m' n' G' σ env :=
  ⟨h.1, fun i d e => let ⟨v, h1, h2⟩ := h.2 i d e; ⟨v, h1, h2.tr t⟩⟩
theorem ER.set {K : PySem.W.Frag} {m : Nat → Addr} {n : Nat} {G : Hp} {σ : St} {env : Env} {v : V} {d : D} (i : Nat) (h : ER K m n G σ env) (r : Rp K m n G v d) : ER K m n G (σ.set i (some v)) (env.set i (some d)) := by
  refine ⟨by rw [List.length_set, List.length_set]; exact h.1, fun j e q => ?_⟩
  by_cases hj : j = i
  · subst hj
    by_cases hl : j < env.length
    · rw [List.getElem?_set_self hl] at q
      have q' : d = e := by simpa using q
      subst q'
      rw [List.getElem?_set_self (by rw [← h.1]; exact hl)]
      exact ⟨v, rfl, r⟩
    · rw [List.getElem?_eq_none (by simpa using hl)] at q
      cases q
  · rw [List.getElem?_set_ne (Ne.symm hj)] at q
    rw [List.getElem?_set_ne (Ne.symm hj)]
    exact h.2 j e q
theorem ER.setN {K : PySem.W.Frag} {m : Nat → Addr} {n : Nat} {G : Hp} {σ : St} {env : Env} (i : Nat) {o : Option V} (h : ER K m n G σ env) : ER K m n G (σ.set i o) (env.set i none) := by
  refine ⟨by rw [List.length_set, List.length_set]; exact h.1, fun j e q => ?_⟩
  by_cases hj : j = i
  · subst hj
    by_cases hl : j < env.length
    · rw [List.getElem?_set_self hl] at q
      cases q
    · rw [List.getElem?_eq_none (by simpa using hl)] at q
      cases q
  · rw [List.getElem?_set_ne (Ne.symm hj)] at q
    rw [List.getElem?_set_ne (Ne.symm hj)]
    exact h.2 j e q

/-- where an answer leads -/
def Wp {α : Type} (K : PySem.W.Frag) (G : Hp) (m : Nat → Addr) (n : Nat) (r : R α) (P : α → Sto → Hp → (Nat → Addr) → Hp → Prop) (E : XK) : Prop := match r with
  | .ok a st' => ∀ G' m' H', Tr G m n G' m' st'.length → SR K G' m' st' H' → P a st' G' m' H'
  | .exc C fs xs st' => ∀ dd vs G' m' H', Tr G m n G' m' st'.length → SR K G' m' st' H' → XF1 G' dd fs vs → @RpL Pin.no K (fun _ => 0) 0 G' vs xs → E (.ref (gaC K C)) dd H'
  | .bad => False
section
variable {α β : Type} {K : PySem.W.Frag} {G G' : Hp} {m m' : Nat → Addr} {n n' : Nat} {r : R α} {P P' : α → Sto → Hp → (Nat → Addr) → Hp → Prop} {E : XK}
theorem Wp.from (t : Tr G m n G' m' n') (h : Wp K G m n r P E) : Wp K G' m' n' r P E := by
  cases r with
  | ok a st => exact fun G2 m2 H2 t2 S => h G2 m2 H2 (t.trans t2) S
  | exc C fs xs st => exact fun dd vs G2 m2 H2 t2 S => h dd vs G2 m2 H2 (t.trans t2) S
  | bad => exact h
theorem Wp.bnd {k : α → Sto → R β} {P : β → Sto → Hp → (Nat → Addr) → Hp → Prop} (h : Wp K G m n (r.bnd k) P E) : Wp K G m n r (fun a st' G' m' _ => Wp K G' m' st'.length (k a st') P E) E := by
  cases r with
  | ok a st => exact fun G2 m2 H2 t2 S => Wp.from t2 h
  | exc C fs xs st => exact h
  | bad => exact h
theorem Wp.imp (h : Wp K G m n r P E) (i : ∀ a st' G' m' H', Tr G m n G' m' st'.length → SR K G' m' st' H' → P a st' G' m' H' → P' a st' G' m' H') : Wp K G m n r P' E := by
  cases r with
  | ok a st => exact fun G2 m2 H2 t2 S => i _ _ _ _ _ t2 S (h G2 m2 H2 t2 S)
  | exc C fs xs st => exact h
  | bad => exact h
end

/-! ### readings -/
def tE [Pin] (K : PySem.W.Frag) (W : WX) (f : Ex) : TE := fun σ H Q => ∃ env G m st, ER K m st.length G σ env ∧ SR K G m st H ∧
  Wp K G m st.length (f env st) (fun d st' G' m' H' => ∀ v, Rp K m' st'.length G' v d → Q v H') fun c dd H' => W c dd σ H'
def tT [Pin] (K : PySem.W.Frag) (W : WX) (f : Tx) : TT := fun σ H Q => ∃ env G m st, ER K m st.length G σ env ∧ SR K G m st H ∧
  Wp K G m st.length (f env st) (fun b _ _ _ H' => Q b H') fun c dd H' => W c dd σ H'
def tA [Pin] (K : PySem.W.Frag) (W : WX) (f : Ax) : TA := fun σ H Q => ∃ env G m st, ER K m st.length G σ env ∧ SR K G m st H ∧
  Wp K G m st.length (f env st) (fun ds st' G' m' H' => ∀ vs, RpL K m' st'.length G' vs ds → Q vs H') fun c dd H' => W c dd σ H'
abbrev EI [Pin] (X : Cx) (W : WX) (e : Expr) (f : Ex) : Prop := PE X e (tE X.K W f)
abbrev TI' [Pin] (X : Cx) (W : WX) (e : Expr) (f : Tx) : Prop := PT X e (tT X.K W f)
abbrev TW [Pin] (X : Cx) (W : WX) (e : Expr) (f : Tx) : Prop := PW X e (tT X.K W f)
abbrev AI [Pin] (X : Cx) (W : WX) (es : List Expr) (f : Ax) : Prop := PA X es (tA X.K W f)
theorem peI {X : Cx} {e : Expr} {t t' : TE} (h : PE X e t) (i : ∀ σ H Q, t' σ H Q → t σ H Q) : PE X e t' := ⟨fun pins s σ H Q I q => h.run pins s σ H Q I (i σ H Q q)⟩
theorem ptI {X : Cx} {e : Expr} {t t' : TT} (h : PT X e t) (i : ∀ σ H Q, t' σ H Q → t σ H Q) : PT X e t' := ⟨fun pins s σ H Q I q => h.run pins s σ H Q I (i σ H Q q)⟩
theorem pwI {X : Cx} {e : Expr} {t t' : TT} (h : PW X e t) (i : ∀ σ H Q, t' σ H Q → t σ H Q) : PW X e t' := ⟨fun wh pins s σ H Q I q => h.run wh pins s σ H Q I (i σ H Q q)⟩
theorem paI {X : Cx} {e : List Expr} {t t' : TA} (h : PA X e t) (i : ∀ σ H Q, t' σ H Q → t σ H Q) : PA X e t' := ⟨fun pos pins s σ H Q I q => h.run pos pins s σ H Q I (i σ H Q q)⟩

section
variable {X : Cx} {W : WX} {a b c e : Expr} {es : List Expr} {fa fb fc : Ex} {pos : Pos}
/-- an answer that is there, the state as it is -/
theorem Wp.now {α : Type} {K : PySem.W.Frag} {G H : Hp} {m : Nat → Addr} {st : Sto} {x : α} {P : α → Sto → Hp → (Nat → Addr) → Hp → Prop} {E : XK} (h : Wp K G m st.length (.ok x st) P E) (S : SR K G m st H) : P x st G m H := h G m H Tr.refl S
theorem ei_var (i : Nat) {x : Str} (hN : X.N[i]? = some x := by rfl) (hv : Vis X.env.scope x := by first | exact Or.inl rfl | exact Or.inr (Or.inl rfl) | exact Or.inr (Or.inr rfl)) (hd : (x == ("__debug__" : Str)) = false := by decide) (hcd : (x == ("__classdict__" : Str)) = false := by decide) :
    EI X W (.Name x pos) (eVar i) := by
  refine peI (pe_var hN hv hd hcd) fun σ H Q ⟨env, G, m, st, er, S, w⟩ => ?_
  unfold eVar at w
  split at w
  · rename_i d q
    obtain ⟨v, e1, r⟩ := er.2 i d q
    exact ⟨v, e1, w.now S v r⟩
  · exact w.elim
theorem ei_of_c {v : V} {d : D} (h : PE X e (L2.tC v)) (r : ∀ m n G, Rp X.K m n G v d) : EI X W e (eC d) :=
  peI h fun σ H Q ⟨env, G, m, st, er, S, w⟩ => (show Wp X.K G m st.length (.ok d st) _ _ from w).now S v (r _ _ _)
theorem ei_int {i : Int} {j : Nat} : EI X W (.Constant (.int i) j pos) (eC (.int i)) := ei_of_c pe_int fun _ _ _ => .int _
theorem ei_bl {b : Bool} {j : Nat} : EI X W (.Constant (.bool b) j pos) (eC (.bl b)) := ei_of_c pe_bl fun _ _ _ => .bl _
theorem ei_non {j : Nat} : EI X W (.Constant .none j pos) (eC .non) := ei_of_c pe_non fun _ _ _ => .non
theorem ei_str {x : Str} {j : Nat} : EI X W (.Constant (.str x) j pos) (eC (.str x)) := ei_of_c pe_str fun _ _ _ => .str _
/-- a module's constant -/
theorem ei_gint {x : Str} {i : Int} (hg : Gl X x) (hm : ∃ t, X.mg x = some (.int i t)) (hd : (x == ("__debug__" : Str)) = false := by decide) : EI X W (.Name x pos) (eC (.int i)) := by
  obtain ⟨t, hm⟩ := hm
  exact ei_of_c (pe_glob (v := .int i) hg hm ⟨t, rfl⟩ hd) fun _ _ _ => .int _
theorem ei_gstr {x z : Str} (hg : Gl X x) (hm : ∃ t, X.mg x = some (.str z t)) (hd : (x == ("__debug__" : Str)) = false := by decide) : EI X W (.Name x pos) (eC (.str z)) := by
  obtain ⟨t, hm⟩ := hm
  exact ei_of_c (pe_glob (v := .str z) hg hm ⟨t, rfl⟩ hd) fun _ _ _ => .str _
/-- an own class as a value -/
theorem ei_cls {x : Str} (C : String) (hg : Gl X x) (hm : X.mg x = some (.ref (gaC X.K C))) (hd : (x == ("__debug__" : Str)) = false := by decide) : EI X W (.Name x pos) (eC (.cls C)) :=
  ei_of_c (pe_glob (v := .ref (gaC X.K C)) hg hm rfl hd) fun _ _ _ => .cls _
/-- a built-in type as a value -/
theorem ei_ty {x : Str} (T : String) (hg : Gl X x) (hm : X.mg x = none) (hv : bootBuiltins x = some (.type T)) (hn : x ≠ "__name__" := by decide) (hd : (x == ("__debug__" : Str)) = false := by decide) : EI X W (.Name x pos) (eC (.ty T)) :=
  ei_of_c (pe_bltn (v := .ty T) hg hm hv rfl hn hd) fun _ _ _ => .ty _

/-- what an operation on values asks is had from the data's answer -/
def OpSem [Pin] (K : PySem.W.Frag) (f : D → D → Option D) (r : R2) : Prop := ∀ {G : Hp} {m : Nat → Addr} {st : Sto} {H : Hp} {v u : V} {x y z : D}, SR K G m st H → Rp K m st.length G v x → Rp K m st.length G u y → f (view st x) (view st y) = some z →
  ∀ Q : VK, (∀ w G' H', Tr G m st.length G' m st.length → SR K G' m st H' → Rp K m st.length G' w z → Q w H') → r v u H Q
def UnSem [Pin] (K : PySem.W.Frag) (f : D → Option D) (r : V → Hp → VK → Prop) : Prop := ∀ {G : Hp} {m : Nat → Addr} {st : Sto} {H : Hp} {v : V} {x z : D}, SR K G m st H → Rp K m st.length G v x → f (view st x) = some z →
  ∀ Q : VK, (∀ w G' H', Tr G m st.length G' m st.length → SR K G' m st H' → Rp K m st.length G' w z → Q w H') → r v H Q
def ClSem [Pin] (K : PySem.W.Frag) (f : List D → Option D) (r : List V → Hp → VK → Prop) : Prop := ∀ {G : Hp} {m : Nat → Addr} {st : Sto} {H : Hp} {vs : List V} {xs : List D} {z : D}, SR K G m st H → RpL K m st.length G vs xs → f (xs.map (view st)) = some z →
  ∀ Q : VK, (∀ w G' H', Tr G m st.length G' m st.length → SR K G' m st H' → Rp K m st.length G' w z → Q w H') → r vs H Q
/-- two operands, then the operation -/
theorem two {K : PySem.W.Frag} {f : D → D → Option D} {r : R2} {σ : St} {H : Hp} {Q : VK} (hf : OpSem K f r) (h : tE K W (eB f fa fb) σ H Q) : tOp r (tE K W fa) (tE K W fb) σ H Q := by
  obtain ⟨env, G, m, st, er, S, w⟩ := h
  refine ⟨env, G, m, st, er, S, w.bnd.imp fun x st1 G1 m1 H1 t1 S1 w1 v rv => ?_⟩
  refine ⟨env, G1, m1, st1, er.tr t1, S1, w1.bnd.imp fun y st2 G2 m2 H2 t2 S2 w2 u ru => ?_⟩
  unfold R.of at w2
  split at w2
  · rename_i z ez
    exact hf S2 (rv.tr t2) ru ez Q fun w G' H' t3 S3 r3 => w2 G' m2 H' t3 S3 w r3
  · exact w2.elim
theorem ei_op {op : Operator} {f : D → D → Option D} {r : R2} (ho : OpR X (binaryOp op) r) (hf : OpSem X.K f r) (ha : EI X W a fa) (hb : EI X W b fb) : EI X W (.BinOp a op b pos) (eB f fa fb) :=
  peI (pe_op ho ha hb) fun _ _ _ => two hf
theorem ei_cmp {op : CmpOp} {f : D → D → Option D} {r : R2} (ho : OpR X (compareOp op) r) (hf : OpSem X.K f r) (ha : EI X W a fa) (hb : EI X W b fb) (hm : behindInMarks op b = false := by first | exact nobehind _ (by decide) (by decide) | rfl) : EI X W (.Compare a [op] [b] pos) (eB f fa fb) :=
  peI (pe_cmpR ho ha hb hm) fun _ _ _ => two hf
/-- a bool's answer, as a test -/
theorem tE_test {K : PySem.W.Frag} {f : Ex} {σ : St} {H : Hp} {Q : Bool → Hp → Prop} (h : tT K W (tB f) σ H Q) : tE K W f σ H fun x H' => ∃ k, x = .bl k ∧ Q k H' := by
  obtain ⟨env, G, m, st, er, S, w⟩ := h
  refine ⟨env, G, m, st, er, S, w.bnd.imp fun x st1 G1 m1 H1 t1 S1 w1 v rv => ?_⟩
  split at w1
  · cases rv
    exact ⟨_, rfl, w1.now S1⟩
  · exact w1.elim
theorem ti_cmp {op : CmpOp} {f : D → D → Option D} {r : R2} (ho : OpR X (compareOp op) r) (hf : OpSem X.K f r) (ha : EI X W a fa) (hb : EI X W b fb) (hm : behindInMarks op b = false := by first | exact nobehind _ (by decide) (by decide) | rfl) : TI' X W (.Compare a [op] [b] pos) (tB (eB f fa fb)) :=
  ptI (pt_cmpR ho ha hb hm) fun _ _ _ h => two hf (tE_test h)
theorem three {K : PySem.W.Frag} {f g : D → D → Option D} {r r' : R2} {σ : St} {H : Hp} {Q : VK} (hf : OpSem K f r) (hg : OpSem K g r') (h : tE K W (eCh f g fa fb fc) σ H Q) : tChain r r' (tE K W fa) (tE K W fb) (tE K W fc) σ H Q := by
  obtain ⟨env, G, m, st, er, S, w⟩ := h
  refine ⟨env, G, m, st, er, S, w.bnd.imp fun x st1 G1 m1 H1 t1 S1 w1 v rv => ?_⟩
  refine ⟨env, G1, m1, st1, er.tr t1, S1, w1.bnd.imp fun y st2 G2 m2 H2 t2 S2 w2 u ru => ?_⟩
  split at w2
  · rename_i ez
    refine hf S2 (rv.tr t2) ru ez _ fun w G' H' t3 S3 r3 => ?_
    cases r3
    refine ⟨true, rfl, ?_⟩
    rw [if_pos rfl]
    refine ⟨env, G', m2, st2, ((er.tr t1).tr t2).tr t3, S3, (w2.from t3).bnd.imp fun z st4 G4 m4 H4 t4 S4 w4 q rq => ?_⟩
    unfold R.of at w4
    split at w4
    · rename_i z2 ez2
      exact hg S4 ((ru.tr t3).tr t4) rq ez2 Q fun w G' H' t5 S5 r5 => w4 G' m4 H' t5 S5 w r5
    · exact w4.elim
  · rename_i ez
    refine hf S2 (rv.tr t2) ru ez _ fun w G' H' t3 S3 r3 => ?_
    cases r3
    refine ⟨false, rfl, ?_⟩
    rw [if_neg Bool.false_ne_true]
    exact w2 G' m2 H' t3 S3 _ (.bl _)
  · exact w2.elim
theorem ei_chain {op op' : CmpOp} {f g : D → D → Option D} {r r' : R2} (ho : OpR X (compareOp op) r) (hf : OpSem X.K f r) (ho' : OpR X (compareOp op') r') (hg : OpSem X.K g r') (ha : EI X W a fa) (hb : EI X W b fb) (hc : EI X W c fc)
    (hm : lastMarks [op, op'] [b, c] = false := by with_unfolding_all rfl) : EI X W (.Compare a [op, op'] [b, c] pos) (eCh f g fa fb fc) := peI (pe_chain ho ho' ha hb hc hm) fun _ _ _ => three hf hg
theorem ti_chain {op op' : CmpOp} {f g : D → D → Option D} {r r' : R2} (ho : OpR X (compareOp op) r) (hf : OpSem X.K f r) (ho' : OpR X (compareOp op') r') (hg : OpSem X.K g r') (ha : EI X W a fa) (hb : EI X W b fb) (hc : EI X W c fc)
    (hm : lastMarks [op, op'] [b, c] = false := by with_unfolding_all rfl) : TI' X W (.Compare a [op, op'] [b, c] pos) (tB (eCh f g fa fb fc)) := ptI (pt_chain ho ho' ha hb hc hm) fun _ _ _ q => three hf hg (tE_test q)
theorem ei_un {op : UnaryOp} {f : D → Option D} {r : V → Hp → VK → Prop} (ho : UnR X (unaryOp op) r) (hf : UnSem X.K f r) (ha : EI X W a fa) : EI X W (.UnaryOp op a pos) (eU f fa) := by
  refine peI (pe_un ho ha) fun σ H Q ⟨env, G, m, st, er, S, w⟩ => ?_
  refine ⟨env, G, m, st, er, S, w.bnd.imp fun x st1 G1 m1 H1 t1 S1 w1 v rv => ?_⟩
  unfold R.of at w1
  split at w1
  · rename_i z ez
    exact hf S1 rv ez Q fun w G' H' t3 S3 r3 => w1 G' m1 H' t3 S3 w r3
  · exact w1.elim

/-! ### and, or, not, if -/
theorem ti_val (ha : EI X W e fa) (he : ∀ whole, isTrue e X.env whole = (do let v ← whole; standAt e.pos; holding [v] (truthy v)) := by intro _; rfl) : TI' X W e (tB fa) := ptI (pt_val ha he) fun _ _ _ h => tE_test h
theorem ti_not {f : Tx} (ha : TI' X W a f) : TI' X W (.UnaryOp .Not a pos) (tNot f) := by
  refine ptI (pt_not ha) fun σ H Q ⟨env, G, m, st, er, S, w⟩ => ?_
  exact ⟨env, G, m, st, er, S, w.bnd.imp fun x st1 G1 m1 H1 t1 S1 w1 => w1.now S1⟩
theorem tw_and1 {f : Tx} (ha : TI' X W a f) : TW X W (.BoolOp .And [a] pos) f := pw_and1 ha
theorem tw_or1 {f : Tx} (ha : TI' X W a f) : TW X W (.BoolOp .Or [a] pos) f := pw_or1 ha
theorem tw_and {f g : Tx} {rest : List Expr} (ha : TI' X W a f) (hb : TW X W (.BoolOp .And (b :: rest) pos) g) : TW X W (.BoolOp .And (a :: b :: rest) pos) (tAnd f g) := by
  refine pwI (pw_and ha hb) fun σ H Q ⟨env, G, m, st, er, S, w⟩ => ?_
  refine ⟨env, G, m, st, er, S, w.bnd.imp fun x st1 G1 m1 H1 t1 S1 w1 => ?_⟩
  cases x with
  | true =>
    rw [if_pos rfl] at w1 ⊢
    exact ⟨env, G1, m1, st1, er.tr t1, S1, w1⟩
  | false =>
    rw [if_neg Bool.false_ne_true] at w1 ⊢
    exact w1.now S1
theorem tw_or {f g : Tx} {rest : List Expr} (ha : TI' X W a f) (hb : TW X W (.BoolOp .Or (b :: rest) pos) g) : TW X W (.BoolOp .Or (a :: b :: rest) pos) (tOr f g) := by
  refine pwI (pw_or ha hb) fun σ H Q ⟨env, G, m, st, er, S, w⟩ => ?_
  refine ⟨env, G, m, st, er, S, w.bnd.imp fun x st1 G1 m1 H1 t1 S1 w1 => ?_⟩
  cases x with
  | true =>
    rw [if_pos rfl] at w1 ⊢
    exact w1.now S1
  | false =>
    rw [if_neg Bool.false_ne_true] at w1 ⊢
    exact ⟨env, G1, m1, st1, er.tr t1, S1, w1⟩
theorem ti_w {f : Tx} (h : TW X W a f) : TI' X W a f := h.pt
theorem ei_and1 {op : BoolOp} (ha : EI X W a fa) : EI X W (.BoolOp op [a] pos) fa := pe_one ha
theorem ei_and {rest : List Expr} (ha : EI X W a fa) (hb : EI X W (.BoolOp .And (b :: rest) pos) fb) : EI X W (.BoolOp .And (a :: b :: rest) pos) (eAnd fa fb) := by
  refine peI (pe_and ha hb) fun σ H Q ⟨env, G, m, st, er, S, w⟩ => ?_
  refine ⟨env, G, m, st, er, S, w.bnd.imp fun x st1 G1 m1 H1 t1 S1 w1 v rv => ?_⟩
  split at w1
  · cases rv
    refine ⟨_, rfl, ?_⟩
    rw [if_pos rfl]
    exact ⟨env, G1, m1, st1, er.tr t1, S1, w1⟩
  · cases rv
    refine ⟨_, rfl, ?_⟩
    rw [if_neg Bool.false_ne_true]
    exact w1.now S1 _ (.bl _)
  · exact w1.elim
theorem ei_or {rest : List Expr} (ha : EI X W a fa) (hb : EI X W (.BoolOp .Or (b :: rest) pos) fb) : EI X W (.BoolOp .Or (a :: b :: rest) pos) (eOr fa fb) := by
  refine peI (pe_or ha hb) fun σ H Q ⟨env, G, m, st, er, S, w⟩ => ?_
  refine ⟨env, G, m, st, er, S, w.bnd.imp fun x st1 G1 m1 H1 t1 S1 w1 v rv => ?_⟩
  split at w1
  · cases rv
    refine ⟨_, rfl, ?_⟩
    rw [if_pos rfl]
    exact w1.now S1 _ (.bl _)
  · cases rv
    refine ⟨_, rfl, ?_⟩
    rw [if_neg Bool.false_ne_true]
    exact ⟨env, G1, m1, st1, er.tr t1, S1, w1⟩
  · exact w1.elim
theorem ei_not (ha : EI X W a fa) : EI X W (.UnaryOp .Not a pos) (eNot fa) := by
  refine peI (pe_not ha) fun σ H Q ⟨env, G, m, st, er, S, w⟩ => ?_
  refine ⟨env, G, m, st, er, S, w.bnd.imp fun x st1 G1 m1 H1 t1 S1 w1 v rv => ?_⟩
  split at w1
  · cases rv
    exact ⟨_, rfl, w1.now S1 _ (.bl _)⟩
  · exact w1.elim
theorem ei_if {f : Tx} (hc : TI' X W c f) (ha : EI X W a fa) (hb : EI X W b fb) : EI X W (.IfExp c a b pos) (eIf f fa fb) := by
  refine peI (pe_ifExp hc ha hb) fun σ H Q ⟨env, G, m, st, er, S, w⟩ => ?_
  refine ⟨env, G, m, st, er, S, w.bnd.imp fun x st1 G1 m1 H1 t1 S1 w1 => ?_⟩
  cases x with
  | true =>
    rw [if_pos rfl] at w1 ⊢
    exact ⟨env, G1, m1, st1, er.tr t1, S1, w1⟩
  | false =>
    rw [if_neg Bool.false_ne_true] at w1 ⊢
    exact ⟨env, G1, m1, st1, er.tr t1, S1, w1⟩

/-! ### arguments, displays -/
theorem ai_nil : AI X W [] aNil := paI pa_nil fun σ H Q ⟨env, G, m, st, er, S, w⟩ => (show Wp X.K G m st.length (.ok [] st) _ _ from w).now S [] .nil
theorem ai_cons {f : Ax} (ha : EI X W e fa) (hr : AI X W es f) (hs : starEach (e :: es) X.env = (false, eval e X.env) :: starEach es X.env := by rfl) : AI X W (e :: es) (aCons fa f) := by
  refine paI (pa_cons ha hr hs) fun σ H Q ⟨env, G, m, st, er, S, w⟩ => ?_
  refine ⟨env, G, m, st, er, S, w.bnd.imp fun x st1 G1 m1 H1 t1 S1 w1 v rv => ?_⟩
  refine ⟨env, G1, m1, st1, er.tr t1, S1, w1.bnd.imp fun xs st2 G2 m2 H2 t2 S2 w2 vs rvs => ?_⟩
  exact w2.now S2 _ (.cons (rv.tr t2) rvs)
theorem big : (1000000 : Nat) ≤ sizeLine := by rw [sizeLine_eq]; decide
theorem ei_tup {f : Ax} {x1 : Nat} (h : AI X W es f) : EI X W (.Tuple es x1 pos) (eTup f) := by
  refine peI (pe_tup h) fun σ H Q ⟨env, G, m, st, er, S, w⟩ => ?_
  refine ⟨env, G, m, st, er, S, w.bnd.imp fun xs st1 G1 m1 H1 t1 S1 w1 vs rvs => ?_⟩
  split at w1
  · rename_i hl
    refine ⟨Nat.le_trans (by rw [rvs.length]; exact hl) big, fun p hp => ?_⟩
    exact w1 _ _ _ (S1.trNew hp) (S1.new hp) _ (.tup (SqT.of upd_same) (rvs.tr (S1.trNew hp)))
  · exact w1.elim
theorem ei_lst {f : Ax} (h : AI X W es f) : EI X W (.List es pos) (eLst f) := by
  refine peI (pe_lst h) fun σ H Q ⟨env, G, m, st, er, S, w⟩ => ?_
  refine ⟨env, G, m, st, er, S, w.bnd.imp fun xs st1 G1 m1 H1 t1 S1 w1 vs rvs => ?_⟩
  split at w1
  · rename_i hl
    refine ⟨Nat.le_trans (by rw [rvs.length]; exact hl) big, fun p hp => ?_⟩
    exact w1 _ _ _ (S1.trNew hp) (S1.new hp) _ (.lst upd_same (rvs.tr (S1.trNew hp)))
  · exact w1.elim
theorem ei_lstL {f : Ax} (h : AI X W es f) : EI X W (.List es pos) (eLstL f) := by
  refine peI (pe_lst h) fun σ H Q ⟨env, G, m, st, er, S, w⟩ => ?_
  refine ⟨env, G, m, st, er, S, w.bnd.imp fun xs st1 G1 m1 H1 t1 S1 w1 vs rvs => ?_⟩
  split at w1
  · rename_i hl
    refine ⟨Nat.le_trans (by rw [rvs.length]; exact hl.1) big, fun p hp => ?_⟩
    have S2 := S1.push (u := .lst vs) (o := .lst xs) hp rfl ⟨S1.free hp, vs, upd_same, rvs.gnd xs vs hl.2⟩
    refine w1 _ _ _ S1.trPush S2 _ ?_
    have q := Rp.ref (K := X.K) (m := fun i => if i = st1.length then p else m1 i) (n := (st1 ++ [SO.lst xs]).length) (G := G1) (i := st1.length) (by simp)
    simp only [if_true] at q
    exact q
  · exact w1.elim
end
end Cb

set_option Elab.async false
set_option linter.all false
set_option maxRecDepth 100000
set_option maxHeartbeats 4000000
/-! CbTup: tuple * int. -/
namespace Cb
open PySem PySem.Spec PyProof.Rows L2
variable {pin : Pin}
theorem tuple_mul1 (l : Addr) (items : Array Value) (n : Nat) (dd : Option Addr) (sl : Array (Option Value)) (u : Tok) :
    Meets (Builtin.«tuple.__mul__» ⟨[.ref l, .int 1 u], []⟩) (fun _ R s => s.heap.get? l = some { cls := .type "tuple", dict := dd, data := .seq items n, slots := sl } ∧
      R (.ok (.ret (Value.ref l))) s) :=
  .of_wp fun prog w A R s h => by
    obtain ⟨hp, g, d, tk, os⟩ := s
    obtain ⟨hl, h⟩ := h
    have f1 := AutoSeq1.idx_int
    wp_walk using wpAny_loadPart' hl
    exact ⟨_, rfl, h⟩
def rRepT1 (K : PySem.W.Frag) : R2 := fun x y H Q => ∃ l xs, x = .ref l ∧ y = .int 1 ∧ SqT K H l xs ∧ Q (.ref l) H
def rRepTA (K : PySem.W.Frag) : R2 := fun x y H Q => rRepT K x y H Q ∨ rRepT1 K x y H Q
section
variable {X : Cx}
theorem op_repT1 : OpR X (binaryOp .Mult) (rRepT1 X.K) := by
  intro pins s σ H x y v u Q I rx ry h
  obtain ⟨l, xs, rfl, rfl, hT, q⟩ := h
  cases rx
  obtain ⟨t, rfl⟩ := ry
  obtain ⟨its, r, ⟨⟨cls, dd, data, sl⟩, ho, hc, n, hd⟩, hs⟩ := I.tuple hT
  simp only at hc hd
  subst hc hd
  refine wpAny_binaryOp_repeat_ref (T := "tuple") (U := "int") (by decide) ⟨_, ho, rfl⟩ (fun s' => typeIs_int s' 1 t) noFill_tuple_mul F.fills_int_mul F.slot_int_rmul repeat_tuple F.slot_int_index.lookup
    (call_meets F.slot_int_rmul (typeIs_int s 1 t) F.entry_int_rmul (F.args_int_rmul_2 _ _) (int_rmul_tuple 1 t l its.toArray n dd sl)
      ⟨ho, rfl, ⟨_, ho, rfl⟩, call_meets F.slot_tuple_mul ⟨_, ho, rfl⟩ F.entry_tuple_mul (F.args_tuple_mul_2 _ _) (tuple_mul1 l its.toArray n dd sl t) ⟨ho, ?_⟩⟩)
  exact ⟨.ref l, H, I, rfl, q⟩
theorem op_repTA : OpR X (binaryOp .Mult) (rRepTA X.K) := by
  intro pins s σ H x y v u Q I rx ry h
  rcases h with h | h
  · exact op_repT pins s σ H x y v u Q I rx ry h
  · exact op_repT1 pins s σ H x y v u Q I rx ry h
end
end Cb

set_option Elab.async false
set_option linter.all false
set_option maxRecDepth 100000
set_option maxHeartbeats 4000000
/-! CbOp: the operations on values. -/
namespace Cb
open PySem PySem.Spec PyProof.Rows L2
variable {pin : Pin}

section
variable {K : PySem.W.Frag} {m : Nat → Addr} {st : Sto} {G H : Hp} {v u : V} {x y : D}
/-- what a value that stands as d is -/
theorem v_int {i : Int} (r : Rp K m st.length G v x) (e : view st x = .int i) : v = .int i := by
  have q := view_else e (fun xs z => by cases z)
  subst q
  cases r
  rfl
theorem v_bl {i : Bool} (r : Rp K m st.length G v x) (e : view st x = .bl i) : v = .bl i := by
  have q := view_else e (fun xs z => by cases z)
  subst q
  cases r
  rfl
theorem v_str {i : Str} (r : Rp K m st.length G v x) (e : view st x = .str i) : v = .str i := by
  have q := view_else e (fun xs z => by cases z)
  subst q
  cases r
  rfl
theorem v_non (r : Rp K m st.length G v x) (e : view st x = .non) : v = .non := by
  have q := view_else e (fun xs z => by cases z)
  subst q
  cases r
  rfl
theorem v_tup {xs : List D} (r : Rp K m st.length G v x) (e : view st x = .tup xs) : ∃ a vs, v = .ref a ∧ SqT K G a vs ∧ RpL K m st.length G vs xs := by
  have q := view_else e (fun xs z => by cases z)
  subst q
  cases r with
  | tup h1 h2 => exact ⟨_, _, rfl, h1, h2⟩
theorem v_scr {xs : List D} (r : Rp K m st.length G v x) (e : view st x = .scr xs) : ∃ a vs, v = .ref a ∧ SqL K G a vs ∧ RpL K m st.length G vs xs := by
  have q := view_else e (fun xs z => by cases z)
  subst q
  cases r with
  | scr h1 h2 => exact ⟨_, _, rfl, h1, h2⟩

/-- a new tuple, a new list -/
theorem new_tup (S : SR K G m st H) {vs : List V} {xs : List D} {p : Addr} (r : RpL K m st.length G vs xs) (hp : H p = none) {Q : VK} (q : ∀ w G' H', Tr G m st.length G' m st.length → SR K G' m st H' → Rp K m st.length G' w (.tup xs) → Q w H') : Q (.ref p) (upd H p (.tup vs)) :=
  q _ _ _ (S.trNew hp) (S.new hp) (.tup (SqT.of upd_same) (r.tr (S.trNew hp)))
theorem new_lst (S : SR K G m st H) {vs : List V} {xs : List D} {p : Addr} (r : RpL K m st.length G vs xs) (hp : H p = none) {Q : VK} (q : ∀ w G' H', Tr G m st.length G' m st.length → SR K G' m st H' → Rp K m st.length G' w (.lst xs) → Q w H') : Q (.ref p) (upd H p (.lst vs)) :=
  q _ _ _ (S.trNew hp) (S.new hp) (.lst upd_same (r.tr (S.trNew hp)))
end

theorem some_inj {α : Type} {a b : α} (h : some a = some b) : a = b := Option.some.inj h
theorem le_line {n : Nat} (h : n ≤ 1000000) : n ≤ sizeLine := Nat.le_trans h big

/-! ### operators -/
section
variable {X : Cx} {K : PySem.W.Frag}
def rAddD (K : PySem.W.Frag) : R2 := fun x y H Q => (rI0 fun i j => .int (i + j)) x y H Q ∨ (∃ i j, x = .str i ∧ y = .str j ∧ i.length + j.length ≤ sizeLine ∧ Q (.str (i ++ j)) H) ∨ rCatA K x y H Q ∨ rCat x y H Q
theorem op_addD : OpR X (binaryOp .Add) (rAddD X.K) := op_add.or (op_add_str.or (op_catA.or op_cat))
theorem os_add : OpSem K oAdd (rAddD K) := by
  intro G m st H v u x y z S rv ru e Q q
  unfold oAdd at e
  split at e
  · rename_i i j hx hy
    rw [v_int rv hx, v_int ru hy]
    cases e
    exact .inl ⟨i, j, rfl, rfl, q _ _ _ Tr.refl S (.int _)⟩
  · rename_i i j hx hy
    split at e
    · rename_i hl
      rw [v_str rv hx, v_str ru hy]
      cases e
      exact .inr (.inl ⟨i, j, rfl, rfl, le_line hl, q _ _ _ Tr.refl S (.str _)⟩)
    · cases e
  · rename_i xs ys hx hy
    split at e
    · rename_i hl
      obtain ⟨a, vs, rfl, h1, r1⟩ := v_tup rv hx
      obtain ⟨b, us, rfl, h2, r2⟩ := v_tup ru hy
      cases e
      refine .inr (.inr (.inl ⟨a, b, vs, us, rfl, rfl, same_t S.ex h1, same_t S.ex h2, by rw [r1.length, r2.length]; exact le_line hl, fun e1 => ?_, fun _ e2 => ?_, fun _ _ p hp => new_tup S (r1.app r2) hp q⟩))
      · subst e1
        cases r1
        exact q _ _ _ Tr.refl S (.tup h2 r2)
      · subst e2
        cases r2
        rw [List.append_nil] at q
        exact q _ _ _ Tr.refl S (.tup h1 r1)
    · cases e
  · rename_i xs ys hx hy
    split at e
    · rename_i hl
      obtain ⟨a, vs, rfl, h1, r1⟩ := view_lst S rv hx
      obtain ⟨b, us, rfl, h2, r2⟩ := view_lst S ru hy
      cases e
      exact .inr (.inr (.inr ⟨a, b, vs, us, rfl, rfl, h1, h2, by rw [r1.length, r2.length]; exact le_line hl, fun p hp => new_lst S (r1.app r2) hp q⟩))
    · cases e
  · cases e
theorem os_int {f : D → D → Option D} {g : Int → Int → V} {h : Int → Int → D} (hf : ∀ x y z, f x y = some z → ∃ i j, x = .int i ∧ y = .int j ∧ z = h i j) (hr : ∀ i j m n G, Rp K m n G (g i j) (h i j)) : OpSem K f (rI0 g) := by
  intro G m st H v u x y z S rv ru e Q q
  obtain ⟨i, j, hx, hy, rfl⟩ := hf _ _ _ e
  rw [v_int rv hx, v_int ru hy]
  exact ⟨i, j, rfl, rfl, q _ _ _ Tr.refl S (hr i j _ _ _)⟩
theorem os_intC {f : D → D → Option D} {C : Int → Int → Prop} {g : Int → Int → V} {h : Int → Int → D} (hf : ∀ x y z, f x y = some z → ∃ i j, x = .int i ∧ y = .int j ∧ C i j ∧ z = h i j) (hr : ∀ i j m n G, Rp K m n G (g i j) (h i j)) : OpSem K f (rI C g) := by
  intro G m st H v u x y z S rv ru e Q q
  obtain ⟨i, j, hx, hy, hc, rfl⟩ := hf _ _ _ e
  rw [v_int rv hx, v_int ru hy]
  exact ⟨i, j, rfl, rfl, hc, q _ _ _ Tr.refl S (hr i j _ _ _)⟩
theorem os_sub : OpSem K oSub (rI0 fun i j => .int (i - j)) := os_int (h := fun i j => .int (i - j)) (fun x y z e => by unfold oSub at e; split at e <;> first | exact ⟨_, _, rfl, rfl, (some_inj e).symm⟩ | cases e) fun _ _ _ _ _ => .int _
theorem os_lt : OpSem K oLt (rI0 fun i j => .bl (decide (i < j))) := os_int (h := fun i j => .bl (decide (i < j))) (fun x y z e => by unfold oLt at e; split at e <;> first | exact ⟨_, _, rfl, rfl, (some_inj e).symm⟩ | cases e) fun _ _ _ _ _ => .bl _
theorem os_le : OpSem K oLe (rI0 fun i j => .bl (decide (i ≤ j))) := os_int (h := fun i j => .bl (decide (i ≤ j))) (fun x y z e => by unfold oLe at e; split at e <;> first | exact ⟨_, _, rfl, rfl, (some_inj e).symm⟩ | cases e) fun _ _ _ _ _ => .bl _
theorem os_gt : OpSem K oGt (rI0 fun i j => .bl (decide (j < i))) := os_int (h := fun i j => .bl (decide (j < i))) (fun x y z e => by unfold oGt at e; split at e <;> first | exact ⟨_, _, rfl, rfl, (some_inj e).symm⟩ | cases e) fun _ _ _ _ _ => .bl _
theorem os_ge : OpSem K oGe (rI0 fun i j => .bl (decide (j ≤ i))) := os_int (h := fun i j => .bl (decide (j ≤ i))) (fun x y z e => by unfold oGe at e; split at e <;> first | exact ⟨_, _, rfl, rfl, (some_inj e).symm⟩ | cases e) fun _ _ _ _ _ => .bl _
theorem os_mod : OpSem K oMod (rI (fun _ j => 0 < j) fun i j => .int (i % j)) := os_intC (h := fun i j => .int (i % j)) (fun x y z e => by
  unfold oMod at e
  split at e
  · split at e
    · rename_i h
      exact ⟨_, _, rfl, rfl, h, (some_inj e).symm⟩
    · cases e
  · cases e) fun _ _ _ _ _ => .int _
theorem os_div : OpSem K oDiv (rI CDivW fun i j => .int (i / j)) := os_intC (h := fun i j => .int (i / j)) (fun x y z e => by
  unfold oDiv at e
  split at e
  · split at e
    · rename_i h
      exact ⟨_, _, rfl, rfl, h, (some_inj e).symm⟩
    · cases e
  · cases e) fun _ _ _ _ _ => .int _
theorem os_pow : OpSem K oPow (rI CPow fun i j => .int (i ^ j.toNat)) := os_intC (h := fun i j => .int (i ^ j.toNat)) (fun x y z e => by
  unfold oPow at e
  split at e
  · split at e
    · rename_i h
      exact ⟨_, _, rfl, rfl, h, (some_inj e).symm⟩
    · cases e
  · cases e) fun _ _ _ _ _ => .int _
def rMulD (K : PySem.W.Frag) : R2 := fun x y H Q => (rI CMul fun i j => .int (i * j)) x y H Q ∨ (rI CMulW fun i j => .int (i * j)) x y H Q ∨ rRep x y H Q ∨ rRepTA K x y H Q
theorem op_mulD : OpR X (binaryOp .Mult) (rMulD X.K) := op_mul.or (op_mulW.or (op_rep.or op_repTA))
theorem rep_rel {m : Nat → Addr} {n : Nat} {G : Hp} {vs : List V} {xs : List D} (r : RpL K m n G vs xs) : ∀ k : Nat, RpL K m n G (List.replicate k vs).flatten (List.replicate k xs).flatten
  | 0 => .nil
  | k + 1 => by
    rw [List.replicate_succ, List.replicate_succ, List.flatten_cons, List.flatten_cons]
    exact r.app (rep_rel r k)
theorem os_mul : OpSem K oMul (rMulD K) := by
  intro G m st H v u x y z S rv ru e Q q
  unfold oMul at e
  split at e
  · rename_i i j hx hy
    split at e
    · rename_i hm
      rw [v_int rv hx, v_int ru hy]
      cases e
      have h := of_decide_eq_true hm
      rcases h with h | h | h
      · exact .inl ⟨i, j, rfl, rfl, .inl h, q _ _ _ Tr.refl S (.int _)⟩
      · exact .inl ⟨i, j, rfl, rfl, .inr h, q _ _ _ Tr.refl S (.int _)⟩
      · exact .inr (.inl ⟨i, j, rfl, rfl, h, q _ _ _ Tr.refl S (.int _)⟩)
    · cases e
  · rename_i xs k hx hy
    split at e
    · rename_i hl
      obtain ⟨h1, h2, h3⟩ := hl
      obtain ⟨a, vs, rfl, hv, r⟩ := view_lst S rv hx
      rw [v_int ru hy]
      cases e
      exact .inr (.inr (.inl ⟨a, k, vs, rfl, rfl, hv, by omega, by omega, by rw [r.length]; exact le_line h3, fun p hp => new_lst S (rep_rel r _) hp q⟩))
    · cases e
  · rename_i xs k hx hy
    split at e
    · rename_i hl
      obtain ⟨h1, h2, h3, h4⟩ := hl
      obtain ⟨a, vs, rfl, hv, r⟩ := v_tup rv hx
      rw [v_int ru hy]
      cases e
      by_cases hk : k = 1
      · subst hk
        refine .inr (.inr (.inr (.inr ⟨a, vs, rfl, rfl, same_t S.ex hv, ?_⟩)))
        refine q _ _ _ Tr.refl S ?_
        have e1 : (List.replicate (1 : Int).toNat xs).flatten = xs := by simp
        rw [e1]
        exact .tup hv r
      · refine .inr (.inr (.inr (.inl ⟨a, k, vs, rfl, rfl, same_t S.ex hv, fun z => ?_, by omega, h2, by rw [r.length]; exact h4, fun p hp => new_tup S (rep_rel r _) hp q⟩)))
        have := r.length
        rw [z] at this
        have z2 : xs.length = 0 := this.symm
        omega
    · cases e
  · cases e
theorem us_neg : UnSem K oNeg (rU fun i => .int (-i)) := by
  intro G m st H v x z S rv e Q q
  unfold oNeg at e
  split at e
  · rename_i i hx
    rw [v_int rv hx]
    cases e
    exact ⟨i, rfl, q _ _ _ Tr.refl S (.int _)⟩
  · cases e
theorem os_isN : OpSem K oIsN (fun x y H Q => y = .non ∧ Q (.bl (decide (x = .non))) H) := by
  intro G m st H v u x y z S rv ru e Q q
  unfold oIsN at e
  split at e
  · rename_i hy
    refine ⟨v_non ru hy, ?_⟩
    have key : z = .bl (decide (v = .non)) := by
      cases hx : view st x with
      | non =>
        rw [v_non rv hx, decide_eq_true rfl]
        rw [hx] at e
        exact (some_inj e).symm
      | _ =>
        have ne : v ≠ .non := fun h => by
          subst h
          cases rv
          simp [view] at hx
        rw [decide_eq_false ne]
        rw [hx] at e
        exact (some_inj e).symm
    subst key
    exact q _ _ _ Tr.refl S (.bl _)
  · cases e
theorem os_notN : OpSem K oNotN (fun x y H Q => y = .non ∧ Q (.bl (!decide (x = .non))) H) := by
  intro G m st H v u x y z S rv ru e Q q
  unfold oNotN at e
  split at e
  · rename_i hy
    refine ⟨v_non ru hy, ?_⟩
    have key : z = .bl (!decide (v = .non)) := by
      cases hx : view st x with
      | non =>
        rw [v_non rv hx, decide_eq_true rfl]
        rw [hx] at e
        exact (some_inj e).symm
      | _ =>
        have ne : v ≠ .non := fun h => by
          subst h
          cases rv
          simp [view] at hx
        rw [decide_eq_false ne]
        rw [hx] at e
        exact (some_inj e).symm
    subst key
    exact q _ _ _ Tr.refl S (.bl _)
  · cases e

/-! ### == -/
mutual
def D.py : D → PyData
  | .non => .none
  | .bl b => .bool b
  | .int i => .int i
  | .str x => .str x
  | .tup xs => .tuple (D.pys xs)
  | .lst xs => .list (D.pys xs)
  | .scr xs => .list (D.pys xs)
  | _ => .none
def D.pys : List D → List PyData
  | [] => []
  | d :: ds => d.py :: D.pys ds
end
mutual
theorem py_rel {m : Nat → Addr} {n : Nat} {G : Hp} : ∀ (k : Nat) (d : D) (v : V), d.plain k = true → Rp K m n G v d → Dp K G v d.py
  | _, .non, _, _, h => by cases h; simp only [D.py]; exact .non
  | _, .bl _, _, _, h => by cases h; simp only [D.py]; exact .bl _
  | _, .int _, _, _, h => by cases h; simp only [D.py]; exact .int _
  | _, .str _, _, _, h => by cases h; simp only [D.py]; exact .str _
  | 0, .tup _, _, p, _ => by simp [D.plain] at p
  | 0, .lst _, _, p, _ => by simp [D.plain] at p
  | 0, .scr _, _, p, _ => by simp [D.plain] at p
  | k + 1, .tup ds, _, p, h => by
    cases h with
    | tup h1 h2 =>
      simp only [D.py]
      exact .tup h1 (pys_rel k ds _ (by simpa [D.plain] using p) h2)
  | k + 1, .lst ds, _, p, h => by
    cases h with
    | lst h1 h2 =>
      simp only [D.py]
      exact .lst (SqL.of h1) (pys_rel k ds _ (by simpa [D.plain] using p) h2)
  | k + 1, .scr ds, _, p, h => by
    cases h with
    | scr h1 h2 =>
      simp only [D.py]
      exact .lst h1 (pys_rel k ds _ (by simpa [D.plain] using p) h2)
  | k, .obj _ _ _, _, p, _ => by cases k <;> simp [D.plain] at p
  | k, .exn _ _ _, _, p, _ => by cases k <;> simp [D.plain] at p
  | k, .ref _, _, p, _ => by cases k <;> simp [D.plain] at p
  | k, .cls _, _, p, _ => by cases k <;> simp [D.plain] at p
  | k, .ty _, _, p, _ => by cases k <;> simp [D.plain] at p
theorem pys_rel {m : Nat → Addr} {n : Nat} {G : Hp} : ∀ (k : Nat) (ds : List D) (vs : List V), D.plains k ds = true → RpL K m n G vs ds → DpAll K G vs (D.pys ds)
  | _, [], _, _, h => by cases h; simp only [D.pys]; exact .nil
  | k, d :: ds, _, p, h => by
    have p' : d.plain k = true ∧ D.plains k ds = true := by simpa [D.plains] using p
    cases h with
    | cons h1 h2 =>
      simp only [D.pys]
      exact .cons (py_rel k d _ p'.1 h1) (pys_rel k ds _ p'.2 h2)
end
mutual
theorem dp_same {G G' : Hp} (s : Same G G') : ∀ (d : PyData) (v : V), Dp K G v d → Dp K G' v d
  | .none, _, h => by cases h; exact .non
  | .bool _, _, h => by cases h; exact .bl _
  | .int _, _, h => by cases h; exact .int _
  | .str _, _, h => by cases h; exact .str _
  | .list ds, _, h => by cases h with | lst h1 h2 => exact .lst (same_l s h1) (dps_same s ds _ h2)
  | .tuple ds, _, h => by cases h with | tup h1 h2 => exact .tup (same_t s h1) (dps_same s ds _ h2)
  | .dict _, _, h => by cases h
theorem dps_same {G G' : Hp} (s : Same G G') : ∀ (ds : List PyData) (vs : List V), DpAll K G vs ds → DpAll K G' vs ds
  | [], _, h => by cases h; exact .nil
  | d :: ds, _, h => by cases h with | cons h1 h2 => exact .cons (dp_same s d _ h1) (dps_same s ds _ h2)
end
end
end Cb

set_option Elab.async false
set_option linter.all false
set_option maxRecDepth 100000
set_option maxHeartbeats 4000000
/-! CbOp2: ==, in, subscripts, slices, calls of built-ins. -/
namespace Cb
open PySem PySem.Spec PyProof.Rows L2
variable {pin : Pin}

mutual
theorem plain_py : ∀ (n : Nat) (d : D), d.plain n = true → d.py.plain = true ∧ d.py.depth ≤ n
  | _, .non, _ => by simp [D.py, PyData.plain, PyData.depth]
  | _, .bl _, _ => by simp [D.py, PyData.plain, PyData.depth]
  | _, .int _, _ => by simp [D.py, PyData.plain, PyData.depth]
  | _, .str _, _ => by simp [D.py, PyData.plain, PyData.depth]
  | 0, .tup _, p => by simp [D.plain] at p
  | 0, .lst _, p => by simp [D.plain] at p
  | 0, .scr _, p => by simp [D.plain] at p
  | k + 1, .tup ds, p => by
    have h := plains_py k ds (by simpa [D.plain] using p)
    exact ⟨by simpa [D.py, PyData.plain] using h.1, by simp only [D.py, PyData.depth]; omega⟩
  | k + 1, .lst ds, p => by
    have h := plains_py k ds (by simpa [D.plain] using p)
    exact ⟨by simpa [D.py, PyData.plain] using h.1, by simp only [D.py, PyData.depth]; omega⟩
  | k + 1, .scr ds, p => by
    have h := plains_py k ds (by simpa [D.plain] using p)
    exact ⟨by simpa [D.py, PyData.plain] using h.1, by simp only [D.py, PyData.depth]; omega⟩
  | k, .obj _ _ _, p => by cases k <;> simp [D.plain] at p
  | k, .exn _ _ _, p => by cases k <;> simp [D.plain] at p
  | k, .ref _, p => by cases k <;> simp [D.plain] at p
  | k, .cls _, p => by cases k <;> simp [D.plain] at p
  | k, .ty _, p => by cases k <;> simp [D.plain] at p
theorem plains_py : ∀ (n : Nat) (ds : List D), D.plains n ds = true → PyData.plainAll (D.pys ds) = true ∧ PyData.depthAll (D.pys ds) ≤ n
  | _, [], _ => by simp [D.pys, PyData.plainAll, PyData.depthAll]
  | k, d :: ds, p => by
    have p' : d.plain k = true ∧ D.plains k ds = true := by simpa [D.plains] using p
    have h1 := plain_py k d p'.1
    have h2 := plains_py k ds p'.2
    exact ⟨by simp [D.pys, PyData.plainAll, h1.1, h2.1], by simp only [D.pys, PyData.depthAll]; exact Nat.max_le.mpr ⟨h1.2, h2.2⟩⟩
end
mutual
theorem eqv_py : ∀ (n k : Nat) (x y : D), x.plain n = true → y.plain k = true → D.eqv x y = PyData.eqv x.py y.py
  | n, k, .tup xs, y, p, q => by
    cases n with
    | zero => simp [D.plain] at p
    | succ n =>
      cases y <;> first
        | (simp [D.eqv, D.py, PyData.eqv]; done)
        | (cases k <;> simp [D.plain] at q; done)
        | (cases k with
          | zero => simp [D.plain] at q
          | succ k => simp only [D.eqv, D.py, PyData.eqv]; first | rfl | exact eqvs_py n k _ _ (by simpa [D.plain] using p) (by simpa [D.plain] using q))
  | n, k, .lst xs, y, p, q => by
    cases n with
    | zero => simp [D.plain] at p
    | succ n =>
      cases y <;> first
        | (simp [D.eqv, D.py, PyData.eqv]; done)
        | (cases k <;> simp [D.plain] at q; done)
        | (cases k with
          | zero => simp [D.plain] at q
          | succ k => simp only [D.eqv, D.py, PyData.eqv]; first | rfl | exact eqvs_py n k _ _ (by simpa [D.plain] using p) (by simpa [D.plain] using q))
  | n, k, .scr xs, y, p, q => by
    cases n with
    | zero => simp [D.plain] at p
    | succ n =>
      cases y <;> first
        | (simp [D.eqv, D.py, PyData.eqv]; done)
        | (cases k <;> simp [D.plain] at q; done)
        | (cases k with
          | zero => simp [D.plain] at q
          | succ k => simp only [D.eqv, D.py, PyData.eqv]; first | rfl | exact eqvs_py n k _ _ (by simpa [D.plain] using p) (by simpa [D.plain] using q))
  | n, k, .non, y, _, q => by cases y <;> first | (simp [D.eqv, D.py, PyData.eqv]; done) | (cases k <;> simp [D.plain] at q)
  | n, k, .bl _, y, _, q => by cases y <;> first | (simp [D.eqv, D.py, PyData.eqv]; done) | (cases k <;> simp [D.plain] at q)
  | n, k, .int _, y, _, q => by cases y <;> first | (simp [D.eqv, D.py, PyData.eqv]; done) | (cases k <;> simp [D.plain] at q)
  | n, k, .str _, y, _, q => by cases y <;> first | (simp [D.eqv, D.py, PyData.eqv]; done) | (cases k <;> simp [D.plain] at q)
  | n, _, .obj _ _ _, _, p, _ => by cases n <;> simp [D.plain] at p
  | n, _, .exn _ _ _, _, p, _ => by cases n <;> simp [D.plain] at p
  | n, _, .ref _, _, p, _ => by cases n <;> simp [D.plain] at p
  | n, _, .cls _, _, p, _ => by cases n <;> simp [D.plain] at p
  | n, _, .ty _, _, p, _ => by cases n <;> simp [D.plain] at p
theorem eqvs_py : ∀ (n k : Nat) (xs ys : List D), D.plains n xs = true → D.plains k ys = true → D.eqvs xs ys = PyData.eqvAll (D.pys xs) (D.pys ys)
  | _, _, [], ys, _, _ => by cases ys <;> simp [D.eqvs, D.pys, PyData.eqvAll]
  | n, k, x :: xs, ys, p, q => by
    cases ys with
    | nil => simp [D.eqvs, D.pys, PyData.eqvAll]
    | cons y ys =>
      have p' : x.plain n = true ∧ D.plains n xs = true := by simpa [D.plains] using p
      have q' : y.plain k = true ∧ D.plains k ys = true := by simpa [D.plains] using q
      simp only [D.eqvs, D.pys, PyData.eqvAll, eqv_py n k x y p'.1 q'.1, eqvs_py n k xs ys p'.2 q'.2]
end
theorem any_py (n k : Nat) (x : D) (hx : x.plain n = true) : ∀ ys : List D, D.plains k ys = true → (ys.any fun z => z.eqv x) = (D.pys ys).any fun z => PyData.eqv z x.py
  | [], _ => rfl
  | y :: ys, q => by
    have q' : y.plain k = true ∧ D.plains k ys = true := by simpa [D.plains] using q
    simp only [List.any_cons, D.pys, eqv_py k n y x q'.1 hx, any_py n k x hx ys q'.2]

section
variable {X : Cx} {K : PySem.W.Frag} {m : Nat → Addr} {st : Sto} {G H : Hp} {v u : V} {x y : D}
/-- a value as it stands, as data -/
theorem py_view (S : SR K G m st H) (r : Rp K m st.length G v x) {k : Nat} (p : (view st x).plain k = true) : Dp K H v (view st x).py := by
  cases hx : view st x with
  | lst xs =>
    rw [hx] at p
    obtain ⟨a, vs, rfl, hv, rv⟩ := view_lst S r hx
    cases k with
    | zero => simp [D.plain] at p
    | succ k =>
      simp only [D.py]
      exact .lst (SqL.of hv) (dps_same S.ex _ _ (pys_rel k xs vs (by simpa [D.plain] using p) rv))
  | _ =>
    have e := view_else hx (fun xs z => by cases z)
    rw [hx] at p
    subst e
    exact dp_same S.ex _ _ (py_rel k _ v p r)

def rEq2 (K : PySem.W.Frag) : R2 := fun x y H Q => ∃ d e, Dp K H x d ∧ Dp K H y e ∧ d.plain = true ∧ e.plain = true ∧ d.depth ≤ 60 ∧ e.depth ≤ 60 ∧ Q (.bl (PyData.eqv d e)) H
def rNe2 (K : PySem.W.Frag) : R2 := fun x y H Q => ∃ d e, Dp K H x d ∧ Dp K H y e ∧ d.plain = true ∧ e.plain = true ∧ d.depth ≤ 60 ∧ e.depth ≤ 60 ∧ Q (.bl (!PyData.eqv d e)) H
theorem op_eq2 (hu : X.A.units + 64 < cLine) : OpR X (compareOp .Eq) (rEq2 X.K) := by
  intro pins s σ H x y v u Q I rx ry h
  obtain ⟨d, e, hd, he, sd, se, td, te, q⟩ := h
  obtain ⟨as, r1⟩ := Dp.reads I d x v hd rx
  obtain ⟨bs, r2⟩ := Dp.reads I e y u he ry
  exact SeqAt.eq_plain r1 r2 sd se (by omega) ⟨.bl _, H, I, rfl, q⟩
theorem op_ne2 (hu : X.A.units + 64 < cLine) : OpR X (compareOp .NotEq) (rNe2 X.K) := by
  intro pins s σ H x y v u Q I rx ry h
  obtain ⟨d, e, hd, he, sd, se, td, te, q⟩ := h
  obtain ⟨as, r1⟩ := Dp.reads I d x v hd rx
  obtain ⟨bs, r2⟩ := Dp.reads I e y u he ry
  exact SeqAt.ne_plain r1 r2 sd se (by omega) ⟨.bl _, H, I, rfl, q⟩
theorem os_eq : OpSem K oEq (rEq2 K) := by
  intro G m st H v u x y z S rv ru e Q q
  unfold oEq at e
  split at e
  · rename_i h
    cases e
    obtain ⟨h1, h2⟩ := plain_py 60 _ h.1
    obtain ⟨h3, h4⟩ := plain_py 60 _ h.2
    refine ⟨_, _, py_view S rv h.1, py_view S ru h.2, h1, h3, h2, h4, ?_⟩
    rw [← eqv_py 60 60 _ _ h.1 h.2]
    exact q _ _ _ Tr.refl S (.bl _)
  · cases e
theorem os_ne : OpSem K oNe (rNe2 K) := by
  intro G m st H v u x y z S rv ru e Q q
  unfold oNe at e
  split at e
  · rename_i h
    cases e
    obtain ⟨h1, h2⟩ := plain_py 60 _ h.1
    obtain ⟨h3, h4⟩ := plain_py 60 _ h.2
    refine ⟨_, _, py_view S rv h.1, py_view S ru h.2, h1, h3, h2, h4, ?_⟩
    rw [← eqv_py 60 60 _ _ h.1 h.2]
    exact q _ _ _ Tr.refl S (.bl _)
  · cases e
def rIn2 (K : PySem.W.Frag) (neg : Bool) : R2 := fun x y H Q => (∃ d ds, Dp K H x d ∧ (Dp K H y (.list ds) ∨ Dp K H y (.tuple ds)) ∧ d.plain = true ∧ PyData.plainAll ds = true ∧ d.depth ≤ 60 ∧ Q (.bl (if neg then !ds.any fun z => PyData.eqv z d else ds.any fun z => PyData.eqv z d)) H) ∨
  ∃ (c : Nat) (z : Str), x = .str ⟨#[c]⟩ ∧ y = .str z ∧ Q (.bl (if neg then !decide (c ∈ z.cps.toList) else decide (c ∈ z.cps.toList))) H
theorem op_in2 (hu : X.A.units + 64 < cLine) : OpR X (compareOp .In) (rIn2 X.K false) := by
  intro pins s σ H x y v u Q I rx ry h
  rcases h with ⟨d, ds, hd, he, sd, se, td, q⟩ | h
  · obtain ⟨as, r1⟩ := Dp.reads I d x v hd rx
    rcases he with he | he
    · obtain ⟨bs, r2⟩ := Dp.reads I _ y u he ry
      exact SeqAt.in_list_data r2 r1 se sd (by omega) ⟨.bl _, H, I, rfl, q⟩
    · obtain ⟨bs, r2⟩ := Dp.reads I _ y u he ry
      exact SeqAt.in_tuple_data r2 r1 se sd (by omega) ⟨.bl _, H, I, rfl, q⟩
  · exact op_in_sign pins s σ H x y v u Q I rx ry h
theorem op_notIn2 (hu : X.A.units + 64 < cLine) : OpR X (compareOp .NotIn) (rIn2 X.K true) := by
  intro pins s σ H x y v u Q I rx ry h
  rcases h with ⟨d, ds, hd, he, sd, se, td, q⟩ | h
  · obtain ⟨as, r1⟩ := Dp.reads I d x v hd rx
    rcases he with he | he
    · obtain ⟨bs, r2⟩ := Dp.reads I _ y u he ry
      exact SeqAt.notIn_list_data r2 r1 se sd (by omega) ⟨.bl _, H, I, rfl, q⟩
    · obtain ⟨bs, r2⟩ := Dp.reads I _ y u he ry
      exact SeqAt.notIn_tuple_data r2 r1 se sd (by omega) ⟨.bl _, H, I, rfl, q⟩
  · exact op_notIn_sign pins s σ H x y v u Q I rx ry h
theorem in_key {neg : Bool} {b : Bool} (S : SR K G m st H) (rv : Rp K m st.length G v x) (ru : Rp K m st.length G u y) (e : isInD (view st x) (view st y) = some b) {Q : VK}
    (q : Q (.bl (if neg then !b else b)) H) : rIn2 K neg v u H Q := by
  unfold isInD at e
  split at e
  · rename_i ys hy
    split at e
    · rename_i h
      cases e
      obtain ⟨h1, h2⟩ := plain_py 60 _ h.1
      obtain ⟨h3, h4⟩ := plains_py 59 _ h.2
      have dy : (view st y).plain 60 = true := by rw [hy]; simpa [D.plain] using h.2
      have py := py_view S ru dy
      rw [hy] at py
      simp only [D.py] at py
      refine .inl ⟨_, _, py_view S rv h.1, .inr py, h1, h3, h2, ?_⟩
      rw [← any_py 60 59 _ h.1 _ h.2]
      exact q
    · cases e
  · rename_i ys hy
    split at e
    · rename_i h
      cases e
      obtain ⟨h1, h2⟩ := plain_py 60 _ h.1
      obtain ⟨h3, h4⟩ := plains_py 59 _ h.2
      have dy : (view st y).plain 60 = true := by rw [hy]; simpa [D.plain] using h.2
      have py := py_view S ru dy
      rw [hy] at py
      simp only [D.py] at py
      refine .inl ⟨_, _, py_view S rv h.1, .inl py, h1, h3, h2, ?_⟩
      rw [← any_py 60 59 _ h.1 _ h.2]
      exact q
    · cases e
  · rename_i z hy
    split at e
    · rename_i w hx
      split at e
      · rename_i c hc
        cases e
        refine .inr ⟨c, z, ?_, v_str ru hy, q⟩
        rw [v_str rv hx]
        congr 1
        cases w with
        | mk w =>
          have : w = #[c] := by
            apply Array.toList_inj.mp
            simpa using hc
          rw [this]
      · cases e
    · cases e
  · cases e
theorem os_in : OpSem K oIn (rIn2 K false) := by
  intro G m st H v u x y z S rv ru e Q q
  unfold oIn at e
  cases h : isInD (view st x) (view st y) with
  | none => rw [h] at e; cases e
  | some b =>
    rw [h] at e
    cases e
    exact in_key S rv ru h (q _ _ _ Tr.refl S (.bl _))
theorem os_notIn : OpSem K oNotIn (rIn2 K true) := by
  intro G m st H v u x y z S rv ru e Q q
  unfold oNotIn at e
  cases h : isInD (view st x) (view st y) with
  | none => rw [h] at e; cases e
  | some b =>
    rw [h] at e
    cases e
    exact in_key S rv ru h (q _ _ _ Tr.refl S (.bl _))

/-! ### subscripts, slices -/
theorem at_rel {m : Nat → Addr} {n : Nat} {G : Hp} {vs : List V} {xs : List D} {i : Int} {d : D} (r : RpL K m n G vs xs) (e : ((ixD xs.length i).bind fun j => xs[j]?) = some d) : ∃ w, atI vs i = some w ∧ Rp K m n G w d := by
  cases h : ixD xs.length i with
  | none => rw [h] at e; cases e
  | some j =>
    rw [h] at e
    obtain ⟨w, h1, h2⟩ := r.get (show xs[j]? = some d from e)
    refine ⟨w, ?_, h2⟩
    unfold atI
    rw [r.length]
    rw [show ixN xs.length i = some j from h]
    exact h1
theorem os_ix : OpSem K oIx (rIx K) := by
  intro G m st H v u x y z S rv ru e Q q
  unfold oIx at e
  split at e
  · rename_i xs i hx hy
    obtain ⟨a, vs, rfl, h1, r1⟩ := v_tup rv hx
    obtain ⟨w, h2, h3⟩ := at_rel r1 e
    exact .inr (.inl ⟨a, vs, i, w, rfl, v_int ru hy, same_t S.ex h1, h2, q _ _ _ Tr.refl S h3⟩)
  · rename_i xs i hx hy
    obtain ⟨a, vs, rfl, h1, r1⟩ := view_lst S rv hx
    obtain ⟨w, h2, h3⟩ := at_rel r1 e
    exact .inl ⟨a, vs, i, w, rfl, v_int ru hy, SqL.of h1, h2, q _ _ _ Tr.refl S h3⟩
  · rename_i z' i hx hy
    split at e
    · rename_i hl
      cases h : ixD z'.cps.toList.length i with
      | none => rw [h] at e; cases e
      | some j =>
        rw [h] at e
        have e2 : ((z'.cps.toList[j]?).map fun c => D.str ⟨#[c]⟩) = some z := e
        cases h2 : z'.cps.toList[j]? with
        | none => rw [h2] at e2; cases e2
        | some c =>
          rw [h2] at e2
          cases e2
          refine .inr (.inr ⟨z', i, c, v_str rv hx, v_int ru hy, le_line hl, ?_, q _ _ _ Tr.refl S (.str _)⟩)
          unfold atI
          rw [show ixN z'.cps.toList.length i = some j from h]
          exact h2
    · cases e
  · cases e
variable {W : WX} {a b c e : Expr} {es : List Expr} {fa fb fc : Ex} {pos : Pos}
theorem ei_ix (ha : EI X W a fa) (hb : EI X W b fb) (hs : PlainIx b := by exact fun _ _ => rfl) : EI X W (.Subscript a b pos) (eB oIx fa fb) :=
  peI (pe_ix ix_seq ha hb hs) fun _ _ _ => two os_ix
def tO [Pin] (K : PySem.W.Frag) (W : WX) (f : Env → Sto → R (Option Int)) : TO := fun σ H Q => ∃ env G m st, ER K m st.length G σ env ∧ SR K G m st H ∧
  Wp K G m st.length (f env st) (fun o _ _ _ H' => Q o H') fun c dd H' => W c dd σ H'
abbrev OI [Pin] (X : Cx) (W : WX) (e : Option Expr) (f : Env → Sto → R (Option Int)) : Prop := PO X e (tO X.K W f)
theorem poI {X : Cx} {e : Option Expr} {t t' : TO} (h : PO X e t) (i : ∀ σ H Q, t' σ H Q → t σ H Q) : PO X e t' := ⟨fun pins s σ H Q I q => h.run pins s σ H Q I (i σ H Q q)⟩
theorem oi_none : OI X W none pNone := poI po_none fun σ H Q ⟨env, G, m, st, er, S, w⟩ => (show Wp X.K G m st.length (.ok none st) _ _ from w).now S
theorem oi_some (h : EI X W e fa) : OI X W (some e) (pSome fa) := by
  refine poI (po_some h) fun σ H Q ⟨env, G, m, st, er, S, w⟩ => ?_
  refine ⟨env, G, m, st, er, S, w.bnd.imp fun x st1 G1 m1 H1 t1 S1 w1 v rv => ?_⟩
  split at w1
  · cases rv
    exact ⟨_, rfl, w1.now S1⟩
  · exact w1.elim
def rSl2 (K : PySem.W.Frag) : V → Option Int → Option Int → Hp → VK → Prop := fun x lo hi H Q => (rSlL K x lo hi H Q ∨ rSlA K x lo hi H Q) ∨ rSlS x lo hi H Q
theorem cut_whole {xs : List D} {l h : Option Int} (hw : sIxD xs.length 0 l = 0 ∧ sIxD xs.length xs.length h = xs.length) : cutD xs l h = xs := by
  unfold cutD
  rw [hw.1, hw.2]
  simp
theorem cut_rel {m : Nat → Addr} {n : Nat} {G : Hp} {vs : List V} {xs : List D} (r : RpL K m n G vs xs) (lo hi : Option Int) : RpL K m n G (cutV vs lo hi) (cutD xs lo hi) := by
  unfold cutV cutD
  have e : ∀ (n d : Nat) (o : Option Int), HT.sIx n d o = sIxD n d o := fun n d o => by
    cases o with
    | none => rfl
    | some v =>
      unfold HT.sIx sIxD
      rfl
  rw [r.length, e, e]
  exact (r.dropR _).takeR _
theorem ei_sl {lo hi : Option Expr} {fl fh : Env → Sto → R (Option Int)} {p2 : Pos} (ha : EI X W a fa) (hl : OI X W lo fl) (hh : OI X W hi fh) : EI X W (.Subscript a (.Slice lo hi none p2) pos) (eSl fa fl fh) := by
  refine peI (pe_slice (r := rSl2 X.K) ((sl_list.or sl_tupA).or sl_str) ha hl hh) fun σ H Q ⟨env, G, m, st, er, S, w⟩ => ?_
  refine ⟨env, G, m, st, er, S, w.bnd.imp fun x st1 G1 m1 H1 t1 S1 w1 v rv => ?_⟩
  refine ⟨env, G1, m1, st1, er.tr t1, S1, w1.bnd.imp fun l st2 G2 m2 H2 t2 S2 w2 => ?_⟩
  refine ⟨env, G2, m2, st2, (er.tr t1).tr t2, S2, w2.bnd.imp fun h st3 G3 m3 H3 t3 S3 w3 => ?_⟩
  have rv3 := (rv.tr t2).tr t3
  unfold R.of at w3
  split at w3
  · rename_i z ez
    have fin : ∀ w G' H', Tr G3 m3 st3.length G' m3 st3.length → SR X.K G' m3 st3 H' → Rp X.K m3 st3.length G' w z → Q w H' := fun w G' H' t4 S4 r4 => w3 G' m3 H' t4 S4 w r4
    unfold oSl at ez
    split at ez
    · rename_i l h xs hx
      obtain ⟨p, vs, rfl, h1, r1⟩ := v_tup rv3 hx
      cases ez
      refine .inl (.inr ⟨p, vs, rfl, same_t S3.ex h1, fun hw => ?_, fun _ q hq => new_tup S3 (cut_rel r1 _ _) hq fin⟩)
      have e : ∀ (n d : Nat) (o : Option Int), HT.sIx n d o = sIxD n d o := fun n d o => by
        cases o with
        | none => rfl
        | some v =>
          unfold HT.sIx sIxD
          rfl
      rw [r1.length, e, e] at hw
      refine fin _ _ _ Tr.refl S3 ?_
      rw [cut_whole hw]
      exact .tup h1 r1
    · rename_i l h xs hx
      obtain ⟨p, vs, rfl, h1, r1⟩ := view_lst S3 rv3 hx
      cases ez
      exact .inl (.inl ⟨p, vs, rfl, SqL.of h1, fun q hq => new_lst S3 (cut_rel r1 _ _) hq fin⟩)
    · rename_i l h xs hx
      obtain ⟨p, vs, rfl, h1, r1⟩ := v_scr rv3 hx
      cases ez
      exact .inl (.inl ⟨p, vs, rfl, same_l S3.ex h1, fun q hq => new_lst S3 (cut_rel r1 _ _) hq fin⟩)
    · rename_i l h z hx
      split at ez
      · rename_i hz
        cases ez
        cases v_str rv3 hx
        refine .inr ⟨z, rfl, le_line hz, fin _ _ _ Tr.refl S3 ?_⟩
        have e : ∀ (n d : Nat) (o : Option Int), HT.sIx n d o = sIxD n d o := fun n d o => by
          cases o with
          | none => rfl
          | some v =>
            unfold HT.sIx sIxD
            rfl
        unfold cutS
        rw [e, e]
        exact .str _
      · cases ez
    · cases ez
  · exact w3.elim
end
end Cb

set_option Elab.async false
set_option linter.all false
set_option maxRecDepth 100000
set_option maxHeartbeats 4000000
/-! CbCall: calls of built-ins. -/
namespace Cb
open PySem PySem.Spec PyProof.Rows L2
variable {pin : Pin}

section
variable {X : Cx} {K : PySem.W.Frag} {W : WX} {a b c e : Expr} {es : List Expr} {fa fb fc : Ex} {pos p : Pos} {x : Str} {id T : String}
theorem views {m : Nat → Addr} {st : Sto} {G : Hp} : ∀ {vs : List V} {xs : List D}, RpL K m st.length G vs xs → vs.length = (xs.map (view st)).length := fun r => by rw [List.length_map, r.length]
theorem cB_key {f : List D → Option D} {r : List V → Hp → VK → Prop} {fas : Ax} {σ : St} {H : Hp} {Q : VK} (hf : ClSem K f r) (h : tE K W (eC1 f fas) σ H Q) : tCB r (tA K W fas) σ H Q := by
  obtain ⟨env, G, m, st, er, S, w⟩ := h
  refine ⟨env, G, m, st, er, S, w.bnd.imp fun xs st1 G1 m1 H1 t1 S1 w1 vs rvs => ?_⟩
  unfold R.of at w1
  split at w1
  · rename_i z ez
    exact hf S1 rvs ez Q fun w G' H' t3 S3 r3 => w1 G' m1 H' t3 S3 w r3
  · exact w1.elim
theorem ei_callB {f : List D → Option D} {r : List V → Hp → VK → Prop} {fas : Ax} (hc : CallR X (.builtin id) r) (hf : ClSem X.K f r) (hg : Gl X x) (hm : X.mg x = none) (hv : bootBuiltins x = some (.builtin id)) (ha : AI X W (e :: es) fas) (hn : x ≠ "__name__" := by decide) (hdb : (x == ("__debug__" : Str)) = false := by decide)
    (he : starEach (e :: es) X.env = (false, eval e X.env) :: starEach es X.env := by rfl) (hpl : (backTo pos (starEach es X.env)).any (·.1) = false := by rfl) : EI X W (.Call (.Name x p) (e :: es) [] pos) (eC1 f fas) :=
  peI (pe_callB hc hg hm hv ha hn hdb he hpl) fun _ _ _ h => cB_key hf h
theorem ei_callTy {f : List D → Option D} {r : List V → Hp → VK → Prop} {fas : Ax} (hc : CallR X (.type T) r) (hf : ClSem X.K f r) (hg : Gl X x) (hm : X.mg x = none) (hv : bootBuiltins x = some (.type T)) (ha : AI X W (e :: es) fas) (hn : x ≠ "__name__" := by decide) (hdb : (x == ("__debug__" : Str)) = false := by decide)
    (he : starEach (e :: es) X.env = (false, eval e X.env) :: starEach es X.env := by rfl) (hpl : (backTo pos (starEach es X.env)).any (·.1) = false := by rfl) : EI X W (.Call (.Name x p) (e :: es) [] pos) (eC1 f fas) :=
  peI (pe_callTy hc hg hm hv ha hn hdb he hpl) fun _ _ _ h => cB_key hf h
/-- one, two arguments -/
theorem map1 {xs : List D} {g : D → D} {y : D} (h : xs.map g = [y]) : ∃ x, xs = [x] ∧ g x = y := by
  match xs, h with
  | [x], h => exact ⟨x, rfl, by simpa using h⟩
  | [], h => cases h
  | _ :: _ :: _, h => simp at h
theorem map2 {xs : List D} {g : D → D} {y z : D} (h : xs.map g = [y, z]) : ∃ x x', xs = [x, x'] ∧ g x = y ∧ g x' = z := by
  match xs, h with
  | [x, x'], h => exact ⟨x, x', rfl, by simpa using h⟩
  | [], h => cases h
  | [_], h => simp at h
  | _ :: _ :: _ :: _, h => simp at h
theorem rp1 {m : Nat → Addr} {n : Nat} {G : Hp} {vs : List V} {y : D} (r : RpL K m n G vs [y]) : ∃ v, vs = [v] ∧ Rp K m n G v y := by
  cases r with
  | cons h1 h2 => cases h2; exact ⟨_, rfl, h1⟩
theorem rp2 {m : Nat → Addr} {n : Nat} {G : Hp} {vs : List V} {y z : D} (r : RpL K m n G vs [y, z]) : ∃ v u, vs = [v, u] ∧ Rp K m n G v y ∧ Rp K m n G u z := by
  cases r with
  | cons h1 h2 =>
    obtain ⟨u, rfl, h3⟩ := rp1 h2
    exact ⟨_, u, rfl, h1, h3⟩

def rLen (K : PySem.W.Frag) : List V → Hp → VK → Prop := fun xs H Q => ∃ x n, xs = [x] ∧ LenV K x H n ∧ Q (.int n) H
theorem cs_len : ClSem K cLen (rLen K) := by
  intro G m st H vs xs z S rvs e Q q
  unfold cLen at e
  split at e
  · rename_i ys h
    obtain ⟨x, rfl, hx⟩ := map1 h
    obtain ⟨v, rfl, rv⟩ := rp1 rvs
    obtain ⟨p, us, rfl, h1, r1⟩ := v_tup rv hx
    cases e
    exact ⟨_, _, rfl, .inr ⟨us, same_t S.ex h1, r1.length.symm⟩, q _ _ _ Tr.refl S (.int _)⟩
  · rename_i ys h
    obtain ⟨x, rfl, hx⟩ := map1 h
    obtain ⟨v, rfl, rv⟩ := rp1 rvs
    obtain ⟨p, us, rfl, h1, r1⟩ := view_lst S rv hx
    cases e
    exact ⟨_, _, rfl, .inl ⟨us, SqL.of h1, r1.length.symm⟩, q _ _ _ Tr.refl S (.int _)⟩
  · rename_i ys h
    obtain ⟨x, rfl, hx⟩ := map1 h
    obtain ⟨v, rfl, rv⟩ := rp1 rvs
    obtain ⟨p, us, rfl, h1, r1⟩ := v_scr rv hx
    cases e
    exact ⟨_, _, rfl, .inl ⟨us, same_l S.ex h1, r1.length.symm⟩, q _ _ _ Tr.refl S (.int _)⟩
  · rename_i y h
    obtain ⟨x, rfl, hx⟩ := map1 h
    obtain ⟨v, rfl, rv⟩ := rp1 rvs
    split at e
    · rename_i hl
      cases e
      rw [v_str rv hx]
      exact ⟨_, _, rfl, ⟨le_line hl, rfl⟩, q _ _ _ Tr.refl S (.int _)⟩
    · cases e
  · cases e
theorem cs_abs : ClSem K cAbs (fun xs H Q => ∃ i, xs = [.int i] ∧ Q (.int (if i < 0 then -i else i)) H) := by
  intro G m st H vs xs z S rvs e Q q
  unfold cAbs at e
  split at e
  · rename_i i h
    obtain ⟨x, rfl, hx⟩ := map1 h
    obtain ⟨v, rfl, rv⟩ := rp1 rvs
    cases e
    exact ⟨i, by rw [v_int rv hx], q _ _ _ Tr.refl S (.int _)⟩
  · cases e
theorem cs_int : ClSem K cInt (fun xs H Q => (∃ i, xs = [.int i] ∧ Q (.int i) H) ∨ ∃ k, xs = [.bl k] ∧ Q (.int (if k then 1 else 0)) H) := by
  intro G m st H vs xs z S rvs e Q q
  unfold cInt at e
  split at e
  · rename_i i h
    obtain ⟨x, rfl, hx⟩ := map1 h
    obtain ⟨v, rfl, rv⟩ := rp1 rvs
    cases e
    exact .inl ⟨i, by rw [v_int rv hx], q _ _ _ Tr.refl S (.int _)⟩
  · rename_i i h
    obtain ⟨x, rfl, hx⟩ := map1 h
    obtain ⟨v, rfl, rv⟩ := rp1 rvs
    cases e
    exact .inr ⟨i, by rw [v_bl rv hx], q _ _ _ Tr.refl S (.int _)⟩
  · cases e
theorem cs_max : ClSem K cMax (fun xs H Q => ∃ i j, xs = [.int i, .int j] ∧ Q (.int (if j > i then j else i)) H) := by
  intro G m st H vs xs z S rvs e Q q
  unfold cMax at e
  split at e
  · rename_i i j h
    obtain ⟨x, y, rfl, hx, hy⟩ := map2 h
    obtain ⟨v, u, rfl, rv, ru⟩ := rp2 rvs
    cases e
    exact ⟨i, j, by rw [v_int rv hx, v_int ru hy], q _ _ _ Tr.refl S (.int _)⟩
  · cases e
theorem cs_min : ClSem K cMin (fun xs H Q => ∃ i j, xs = [.int i, .int j] ∧ Q (.int (if j < i then j else i)) H) := by
  intro G m st H vs xs z S rvs e Q q
  unfold cMin at e
  split at e
  · rename_i i j h
    obtain ⟨x, y, rfl, hx, hy⟩ := map2 h
    obtain ⟨v, u, rfl, rv, ru⟩ := rp2 rvs
    cases e
    exact ⟨i, j, by rw [v_int rv hx, v_int ru hy], q _ _ _ Tr.refl S (.int _)⟩
  · cases e
theorem cs_tuple : ClSem K cTuple (fun xs H Q => ∃ p ys, xs = [.ref p] ∧ ((SqL K H p ys ∧ ∀ l, H l = none → Q (.ref l) (upd H l (.tup ys))) ∨ (SqT K H p ys ∧ Q (.ref p) H))) := by
  intro G m st H vs xs z S rvs e Q q
  unfold cTuple at e
  split at e
  · rename_i ys h
    obtain ⟨x, rfl, hx⟩ := map1 h
    obtain ⟨v, rfl, rv⟩ := rp1 rvs
    obtain ⟨p, us, rfl, h1, r1⟩ := v_tup rv hx
    cases e
    exact ⟨_, _, rfl, .inr ⟨same_t S.ex h1, q _ _ _ Tr.refl S (.tup h1 r1)⟩⟩
  · rename_i ys h
    obtain ⟨x, rfl, hx⟩ := map1 h
    obtain ⟨v, rfl, rv⟩ := rp1 rvs
    obtain ⟨p, us, rfl, h1, r1⟩ := view_lst S rv hx
    cases e
    exact ⟨_, _, rfl, .inl ⟨SqL.of h1, fun l hl => new_tup S r1 hl q⟩⟩
  · rename_i ys h
    obtain ⟨x, rfl, hx⟩ := map1 h
    obtain ⟨v, rfl, rv⟩ := rp1 rvs
    obtain ⟨p, us, rfl, h1, r1⟩ := v_scr rv hx
    cases e
    exact ⟨_, _, rfl, .inl ⟨same_l S.ex h1, fun l hl => new_tup S r1 hl q⟩⟩
  · cases e
theorem cs_list : ClSem K cList (fun xs H Q => ∃ p ys, xs = [.ref p] ∧ (SqL K H p ys ∨ SqT K H p ys) ∧ ∀ l, H l = none → Q (.ref l) (upd H l (.lst ys))) := by
  intro G m st H vs xs z S rvs e Q q
  unfold cList at e
  split at e
  · rename_i ys h
    obtain ⟨x, rfl, hx⟩ := map1 h
    obtain ⟨v, rfl, rv⟩ := rp1 rvs
    obtain ⟨p, us, rfl, h1, r1⟩ := v_tup rv hx
    cases e
    exact ⟨_, _, rfl, .inr (same_t S.ex h1), fun l hl => new_lst S r1 hl q⟩
  · rename_i ys h
    obtain ⟨x, rfl, hx⟩ := map1 h
    obtain ⟨v, rfl, rv⟩ := rp1 rvs
    obtain ⟨p, us, rfl, h1, r1⟩ := view_lst S rv hx
    cases e
    exact ⟨_, _, rfl, .inl (SqL.of h1), fun l hl => new_lst S r1 hl q⟩
  · rename_i ys h
    obtain ⟨x, rfl, hx⟩ := map1 h
    obtain ⟨v, rfl, rv⟩ := rp1 rvs
    obtain ⟨p, us, rfl, h1, r1⟩ := v_scr rv hx
    cases e
    exact ⟨_, _, rfl, .inl (same_l S.ex h1), fun l hl => new_lst S r1 hl q⟩
  · cases e
theorem ints_rel {m : Nat → Addr} {n : Nat} {G : Hp} : ∀ {xs : List D} {vs : List V} {ns : List Int}, RpL K m n G vs xs → xs.mapM D.int? = some ns → vs = ns.map V.int
  | [], _, ns, r, e => by
    cases r
    cases e
    rfl
  | x :: xs, _, ns, r, e => by
    cases r with
    | cons h1 h2 =>
      rw [List.mapM_cons] at e
      cases x with
      | int i =>
        cases h : xs.mapM D.int? with
        | none => rw [h] at e; cases e
        | some ms =>
          rw [h] at e
          cases e
          cases h1
          rw [ints_rel h2 h]
          rfl
      | _ => cases e
theorem rel_ints {m : Nat → Addr} {n : Nat} {G : Hp} : ∀ ns : List Int, RpL K m n G (ns.map V.int) (ns.map D.int)
  | [] => .nil
  | i :: ns => .cons (.int i) (rel_ints ns)
def rSum2 (K : PySem.W.Frag) : List V → Hp → VK → Prop := fun vs H Q => ∃ (a : Addr) (ns : List Int), vs = [V.ref a] ∧ (SqL K H a (ns.map V.int) ∨ SqT K H a (ns.map V.int)) ∧ Q (.int ns.sum) H
theorem cr_sum2 (hc : X.calm = true) : CallR X (.builtin "sum") (rSum2 X.K) := by
  intro pins s σ H vs us Q I r h
  obtain ⟨a, ns, rfl, hs | hs, q⟩ := h
  · exact cr_sum hc pins s σ H _ us Q I r ⟨a, ns, rfl, hs, q⟩
  · obtain ⟨its, rv, hl, _⟩ := I.tuple hs
    rw [Vals.ref1 r]
    obtain ⟨o, h1, h2, n, h3⟩ := hl
    have hI := rv.ints
    obtain ⟨xs, e⟩ := hI.allInts.items
    have hn : numsOf (intItems xs).toList = ns := by rw [← e]; exact hI.numsOf
    rw [nums_intItems] at hn
    have hl : s.heap.IsTuple a (intItems xs) := ⟨o, h1, h2, n, by rw [← e]; exact h3⟩
    refine PySem.W.ktm_sumG (I.ok.hd hc) hl fun h' tk t' hk => ?_
    rw [preSum_eq, List.take_of_length_le (by simp), hn]
    exact ⟨.int _, H, I.kept hk, ⟨_, rfl⟩, q⟩
theorem cs_sum : ClSem K cSum (rSum2 K) := by
  intro G m st H vs xs z S rvs e Q q
  unfold cSum at e
  split at e
  · rename_i ys h
    obtain ⟨x, rfl, hx⟩ := map1 h
    obtain ⟨v, rfl, rv⟩ := rp1 rvs
    obtain ⟨p, us, rfl, h1, r1⟩ := view_lst S rv hx
    cases hm : ys.mapM D.int? with
    | none => rw [hm] at e; cases e
    | some ns =>
      rw [hm] at e
      cases e
      rw [ints_rel r1 hm] at h1
      exact ⟨_, ns, rfl, .inl (SqL.of h1), q _ _ _ Tr.refl S (.int _)⟩
  · rename_i ys h
    obtain ⟨x, rfl, hx⟩ := map1 h
    obtain ⟨v, rfl, rv⟩ := rp1 rvs
    obtain ⟨p, us, rfl, h1, r1⟩ := v_tup rv hx
    cases hm : ys.mapM D.int? with
    | none => rw [hm] at e; cases e
    | some ns =>
      rw [hm] at e
      cases e
      rw [ints_rel r1 hm] at h1
      exact ⟨_, ns, rfl, .inr (same_t S.ex h1), q _ _ _ Tr.refl S (.int _)⟩
  · cases e
/-! sorted, of ints -/
theorem insI_perm (x : Int) : ∀ ys : List Int, (insI x ys).Perm (x :: ys)
  | [] => .refl _
  | y :: ys => by
    unfold insI
    split
    · exact .refl _
    · exact ((insI_perm x ys).cons y).trans (List.Perm.swap x y ys)
theorem sortI_perm : ∀ xs : List Int, (sortI xs).Perm xs
  | [] => .refl _
  | x :: xs => (insI_perm x _).trans ((sortI_perm xs).cons x)
theorem insI_sorted (x : Int) : ∀ ys : List Int, ys.Pairwise (· ≤ ·) → (insI x ys).Pairwise (· ≤ ·)
  | [], _ => by simp [insI]
  | y :: ys, h => by
    obtain ⟨h1, h2⟩ := List.pairwise_cons.mp h
    unfold insI
    split
    · rename_i hx
      refine List.pairwise_cons.mpr ⟨fun z hz => ?_, h⟩
      rcases List.mem_cons.mp hz with rfl | hz
      · exact hx
      · exact Int.le_trans hx (h1 z hz)
    · rename_i hx
      refine List.pairwise_cons.mpr ⟨fun z hz => ?_, insI_sorted x ys h2⟩
      rcases List.mem_cons.mp ((insI_perm x ys).mem_iff.mp hz) with rfl | hz
      · omega
      · exact h1 z hz
theorem sortI_sorted : ∀ xs : List Int, (sortI xs).Pairwise (· ≤ ·)
  | [] => .nil
  | x :: xs => insI_sorted x _ (sortI_sorted xs)
/-! sorted, of pairs -/
theorem insP_perm (x : Int × Int) : ∀ ys, (insP x ys).Perm (x :: ys)
  | [] => .refl _
  | y :: ys => by
    unfold insP
    split
    · exact .refl _
    · exact ((insP_perm x ys).cons y).trans (List.Perm.swap x y ys)
theorem sortP_perm : ∀ xs, (sortP xs).Perm xs
  | [] => .refl _
  | x :: xs => (insP_perm x _).trans ((sortP_perm xs).cons x)
theorem insP_sorted (x : Int × Int) : ∀ ys : List (Int × Int), ys.Pairwise (fun a b => codeP a ≤ codeP b) → (insP x ys).Pairwise (fun a b => codeP a ≤ codeP b)
  | [], _ => by simp [insP]
  | y :: ys, h => by
    obtain ⟨h1, h2⟩ := List.pairwise_cons.mp h
    unfold insP
    split
    · rename_i hx
      refine List.pairwise_cons.mpr ⟨fun z hz => ?_, h⟩
      rcases List.mem_cons.mp hz with rfl | hz
      · exact hx
      · exact Int.le_trans hx (h1 z hz)
    · rename_i hx
      refine List.pairwise_cons.mpr ⟨fun z hz => ?_, insP_sorted x ys h2⟩
      rcases List.mem_cons.mp ((insP_perm x ys).mem_iff.mp hz) with rfl | hz
      · omega
      · exact h1 z hz
theorem sortP_sorted : ∀ xs, (sortP xs).Pairwise (fun a b => codeP a ≤ codeP b)
  | [] => .nil
  | x :: xs => insP_sorted x _ (sortP_sorted xs)
theorem pair_of {d : D} {p : Int × Int} (h : d.pair? = some p) : d = pairD p ∧ (0 ≤ p.1 ∧ p.1 < 1000000) ∧ 0 ≤ p.2 ∧ p.2 < 1000000 := by
  unfold D.pair? at h
  split at h
  · split at h
    · rename_i hb
      cases h
      exact ⟨rfl, ⟨hb.1, hb.2.1⟩, hb.2.2.1, hb.2.2.2⟩
    · cases h
  · cases h
theorem pairs_of : ∀ {xs : List D} {ps : List (Int × Int)}, xs.mapM D.pair? = some ps → xs = ps.map pairD ∧ ∀ p ∈ ps, (0 ≤ p.1 ∧ p.1 < 1000000) ∧ 0 ≤ p.2 ∧ p.2 < 1000000
  | [], ps, h => by
    have : ps = [] := by simpa using h.symm
    subst this
    exact ⟨rfl, fun p hp => by cases hp⟩
  | x :: xs, ps, h => by
    rw [List.mapM_cons] at h
    cases hx : x.pair? with
    | none => rw [hx] at h; cases h
    | some p =>
      rw [hx] at h
      cases hr : xs.mapM D.pair? with
      | none => rw [hr] at h; cases h
      | some qs =>
        rw [hr] at h
        cases h
        obtain ⟨e1, e2⟩ := pair_of hx
        obtain ⟨e3, e4⟩ := pairs_of hr
        refine ⟨by rw [e1, e3]; rfl, fun q hq => ?_⟩
        rcases List.mem_cons.mp hq with rfl | hq
        · exact e2
        · exact e4 q hq
theorem RpL.perm {K : PySem.W.Frag} {m : Nat → Addr} {n : Nat} {G : Hp} : ∀ {vs ws : List V}, vs.Perm ws → ∀ {ds : List D}, RpL K m n G vs ds → ∃ es, ds.Perm es ∧ RpL K m n G ws es := by
  intro vs ws h
  induction h with
  | nil => exact fun r => ⟨_, .refl _, r⟩
  | cons x _ ih =>
    intro ds r
    cases r with
    | cons r1 r2 =>
      obtain ⟨es, h1, h2⟩ := ih r2
      exact ⟨_, h1.cons _, .cons r1 h2⟩
  | swap x y l =>
    intro ds r
    cases r with
    | cons r1 r2 =>
      cases r2 with
      | cons r3 r4 => exact ⟨_, .swap _ _ _, .cons r3 (.cons r1 r4)⟩
  | trans _ _ ih1 ih2 =>
    intro ds r
    obtain ⟨es, h1, h2⟩ := ih1 r
    obtain ⟨fs, h3, h4⟩ := ih2 h2
    exact ⟨fs, h1.trans h3, h4⟩
theorem pairD_inj {p q : Int × Int} (h : pairD p = pairD q) : p = q := by
  obtain ⟨a, b⟩ := p
  obtain ⟨c, d⟩ := q
  simp [pairD] at h
  rw [h.1, h.2]
theorem map_pair_perm : ∀ {ps : List (Int × Int)} {es : List D}, (ps.map pairD).Perm es → ∃ qs, es = qs.map pairD ∧ ps.Perm qs := by
  intro ps es h
  have key : ∀ {ds es : List D}, ds.Perm es → ∀ ps : List (Int × Int), ds = ps.map pairD → ∃ qs, es = qs.map pairD ∧ ps.Perm qs := by
    intro ds es h
    induction h with
    | nil =>
      intro ps e
      cases ps with
      | nil => exact ⟨[], rfl, .refl _⟩
      | cons p ps => cases e
    | cons x _ ih =>
      intro ps e
      cases ps with
      | nil => cases e
      | cons p ps =>
        obtain ⟨e1, e2⟩ := List.cons.inj e
        obtain ⟨qs, h1, h2⟩ := ih ps e2
        exact ⟨p :: qs, by rw [e1, h1]; rfl, h2.cons p⟩
    | swap x y l =>
      intro ps e
      match ps, e with
      | p :: q :: ps, e =>
        obtain ⟨e1, e2⟩ := List.cons.inj e
        obtain ⟨e3, e4⟩ := List.cons.inj e2
        exact ⟨q :: p :: ps, by rw [e1, e3, e4]; rfl, .swap _ _ _⟩
    | trans _ _ ih1 ih2 =>
      intro ps e
      obtain ⟨qs, h1, h2⟩ := ih1 ps e
      obtain ⟨rs, h3, h4⟩ := ih2 qs h1
      exact ⟨rs, h3, h2.trans h4⟩
  exact key h ps rfl
theorem pair_rp {m : Nat → Addr} {n : Nat} {G : Hp} {v : V} {p : Int × Int} (r : Rp K m n G v (pairD p)) : ∃ t, v = .ref t ∧ SqT K G t [.int p.1, .int p.2] := by
  cases r with
  | tup h1 h2 =>
    cases h2 with
    | cons r1 r2 =>
      cases r2 with
      | cons r3 r4 =>
        cases r4
        cases r1
        cases r3
        exact ⟨_, rfl, h1⟩
theorem RpL.pairwise {m : Nat → Addr} {n : Nat} {G : Hp} {R : V → V → Prop} {S : (Int × Int) → (Int × Int) → Prop} (hRS : ∀ v w p q, Rp K m n G v (pairD p) → Rp K m n G w (pairD q) → R v w → S p q) : ∀ {vs : List V} {ps : List (Int × Int)}, RpL K m n G vs (ps.map pairD) → vs.Pairwise R → ps.Pairwise S
  | _, [], _, _ => .nil
  | _, p :: ps, r, h => by
    cases r with
    | cons r1 r2 =>
      obtain ⟨h1, h2⟩ := List.pairwise_cons.mp h
      refine List.pairwise_cons.mpr ⟨fun q hq => ?_, RpL.pairwise hRS r2 h2⟩
      obtain ⟨i, hi⟩ := List.mem_iff_getElem?.mp hq
      obtain ⟨w, hw, rw'⟩ := r2.get (i := i) (d := pairD q) (by rw [List.getElem?_map, hi]; rfl)
      exact hRS _ _ _ _ r1 rw' (h1 w (List.mem_of_getElem? hw))
def rSortedA (K : PySem.W.Frag) : List V → Hp → VK → Prop := fun vs H Q => rSortedI K vs H Q ∨ rSortU K 2 1000000 vs H Q
theorem cr_sortedA {X : Cx} : CallR X (.builtin "sorted") (rSortedA X.K) := by
  intro pins s σ H xs us Q I r h
  rcases h with h | h
  · exact cr_sortedI pins s σ H xs us Q I r h
  · exact cr_sortT (by decide) pins s σ H xs us Q I r h
theorem cs_sorted : ClSem K cSorted (rSortedA K) := by
  intro G m st H vs xs z S rvs e Q q
  unfold cSorted at e
  split at e
  · rename_i ys h
    obtain ⟨x, rfl, hx⟩ := map1 h
    obtain ⟨v, rfl, rv⟩ := rp1 rvs
    obtain ⟨p, us, rfl, h1, r1⟩ := view_lst S rv hx
    cases hm : ys.mapM D.int? with
    | some ns =>
      rw [hm] at e
      have e2 : (if ns.length ≤ 1000000 then some (D.lst ((sortI ns).map D.int)) else none) = some z := e
      split at e2
      · cases e2
        rw [ints_rel r1 hm] at h1
        refine .inl ⟨_, ns, rfl, SqL.of h1, fun ns' p hp hs hn => ?_⟩
        have : ns' = sortI ns := List.Perm.eq_of_pairwise (fun a b _ _ h1 h2 => Int.le_antisymm h1 h2) hs (sortI_sorted ns) (hp.trans (sortI_perm ns).symm)
        rw [this]
        exact new_lst S (rel_ints _) hn q
      · cases e2
    | none =>
      rw [hm] at e
      cases hp : ys.mapM D.pair? with
      | none => rw [hp] at e; cases e
      | some ps =>
        rw [hp] at e
        have e2 : (if ps.length < 64 then some (D.lst ((sortP ps).map pairD)) else none) = some z := e
        split at e2
        · rename_i hl
          cases e2
          obtain ⟨rfl, hb⟩ := pairs_of hp
          refine .inr ⟨_, us, rfl, SqL.of h1, by rw [r1.length, List.length_map]; exact hl, fun x hx => ?_, fun ws p hperm hsort hn => ?_⟩
          · obtain ⟨i, hi⟩ := List.mem_iff_getElem?.mp hx
            obtain ⟨d, hd, rd⟩ := r1.at hi
            rw [List.getElem?_map] at hd
            cases hpi : ps[i]? with
            | none => rw [hpi] at hd; cases hd
            | some pr =>
              rw [hpi] at hd
              cases hd
              obtain ⟨t, rfl, ht⟩ := pair_rp rd
              have hbb := hb pr (List.mem_of_getElem? hpi)
              refine ⟨[pr.1, pr.2], ⟨t, rfl, same_t S.ex ht⟩, rfl, fun k hk => ?_⟩
              rcases List.mem_cons.mp hk with rfl | hk
              · exact hbb.1
              · rw [List.mem_singleton.mp hk]
                exact hbb.2
          · obtain ⟨es, hp1, hr⟩ := RpL.perm hperm.symm r1
            obtain ⟨qs, rfl, hq⟩ := map_pair_perm hp1
            have hsq : qs.Pairwise (fun a b => codeP a ≤ codeP b) := by
              refine RpL.pairwise (fun v w a b rv rw' hR => ?_) hr hsort
              obtain ⟨t, rfl, ht⟩ := pair_rp rv
              obtain ⟨u, rfl, hu⟩ := pair_rp rw'
              have := hR [a.1, a.2] [b.1, b.2] ⟨t, rfl, same_t S.ex ht⟩ ⟨u, rfl, same_t S.ex hu⟩
              simpa [TS.code, codeP] using this
            have : qs = sortP ps := List.Perm.eq_of_pairwise (fun a b ha hb2 h1 h2 => by
              have ba := hb a (hq.mem_iff.mpr ha)
              have bb := hb b (hq.mem_iff.mpr ((hq.symm.trans (sortP_perm ps).symm).mem_iff.mpr hb2))
              unfold codeP at h1 h2
              exact Prod.ext (by omega) (by omega)) hsq (sortP_sorted ps) (hq.symm.trans (sortP_perm ps).symm)
            rw [this] at hr
            exact new_lst S hr hn q
        · cases e2
  · cases e
end
end Cb

set_option Elab.async false
set_option linter.all false
set_option maxRecDepth 100000
set_option maxHeartbeats 4000000
/-! CbSt: statements. -/
namespace Cb
open PySem PySem.Spec PyProof.Rows L2
variable {pin : Pin}

/-! ### the program's classes -/
abbrev tv (K : PySem.W.Frag) : String ⊕ String → Value
  | .inl n => .type n
  | .inr C => .ref (gaC K C)
structure POk (K : PySem.W.Frag) (P : Pg) : Prop where
  own : ∀ C ∈ P.own, Cls K (gaC K C) ∧ PySem.W.findIn K (.ref (gaC K C)) "__class__" = some (some (.builtin "object.__class__")) ∧ PySem.W.mroIn K (gaC K C) (.type "object") = some true
  bn : PySem.W.specialIn K (.builtin "object.__class__") "__get__" = some (some (.builtin "getset_descriptor.__get__"))
  bt : PySem.W.takesIn K (.builtin "object.__class__") = some true
  exc : ∀ C ∈ P.exc, ExcC K (gaC K C)
  fld : ∀ p ∈ P.fld, NoAttr K (gaC K p.1) (Str.ofString p.2)
  con : ∀ p ∈ P.con, ∃ t, Con K (gaC K p.1.1) (Str.ofString p.1.2) (.int p.2) (.int p.2 t)
  ct : ∀ q ∈ P.ct, PySem.W.kitOne K (tv K q.1) (tv K q.2.1) = some q.2.2
def conB (K : PySem.W.Frag) (C : Addr) (f : Str) (i : Int) : Bool := match PySem.W.findIn K (.ref C) f with
  | some (some (.int j t)) => decide (j = i) && (decide (PySem.W.specialIn K (.int j t) "__get__" = some none) && !PySem.W.copiedNames.contains f)
  | _ => false
theorem conB_ok {K : PySem.W.Frag} {C : Addr} {f : Str} {i : Int} (h : conB K C f i = true) : ∃ t, Con K C f (.int i) (.int i t) := by
  unfold conB at h
  split at h
  · rename_i j t e
    obtain ⟨h1, h⟩ := Bool.and_eq_true_iff.mp h
    obtain ⟨h2, h3⟩ := Bool.and_eq_true_iff.mp h
    have h1 := of_decide_eq_true h1
    subst h1
    exact ⟨t, e, ⟨t, rfl⟩, of_decide_eq_true h2, by simpa using h3⟩
  · cases h
def ownB (K : PySem.W.Frag) (C : Addr) : Bool := PySem.W.plainGet K C Str.empty && (PySem.W.hasDictIn K C && (PySem.W.plainOver K C && (decide (PySem.W.findIn K (.ref C) "__setattr__" = some (some (.builtin "object.__setattr__"))) &&
  (decide (PySem.W.findIn K (.ref C) "__class__" = some (some (.builtin "object.__class__"))) && decide (PySem.W.mroIn K C (.type "object") = some true)))))
def excB (K : PySem.W.Frag) (C : Addr) : Bool := decide (PySem.W.findIn K (.ref C) "__getattribute__" = some (some (.builtin "BaseException.__getattribute__"))) && (decide (PySem.W.findIn K (.ref C) "__getattr__" = some none) && (decide (PySem.W.subIn K (.ref C) (.type "BaseException") = some true) && (PySem.W.hasDictIn K C &&
  (decide (PySem.W.findIn K (.ref C) "__class__" = some (some (.builtin "object.__class__"))) && decide (PySem.W.mroIn K C (.type "object") = some true)))))
def POk.chk (K : PySem.W.Frag) (P : Pg) : Bool := P.own.all (fun C => ownB K (gaC K C)) && (decide (PySem.W.specialIn K (.builtin "object.__class__") "__get__" = some (some (.builtin "getset_descriptor.__get__"))) && (decide (PySem.W.takesIn K (.builtin "object.__class__") = some true) &&
  (P.exc.all (fun C => excB K (gaC K C)) && (P.fld.all (fun p => decide (PySem.W.findIn K (.ref (gaC K p.1)) (Str.ofString p.2) = some none)) && (P.con.all (fun p => conB K (gaC K p.1.1) (Str.ofString p.1.2) p.2) &&
  P.ct.all fun q => decide (PySem.W.kitOne K (tv K q.1) (tv K q.2.1) = some q.2.2))))))
theorem POk.of {K : PySem.W.Frag} {P : Pg} (h : POk.chk K P = true) : POk K P := by
  obtain ⟨h1, h⟩ := Bool.and_eq_true_iff.mp h
  obtain ⟨h2, h⟩ := Bool.and_eq_true_iff.mp h
  obtain ⟨h3, h⟩ := Bool.and_eq_true_iff.mp h
  obtain ⟨h4, h⟩ := Bool.and_eq_true_iff.mp h
  obtain ⟨h5, h⟩ := Bool.and_eq_true_iff.mp h
  obtain ⟨h6, h7⟩ := Bool.and_eq_true_iff.mp h
  have h2 := of_decide_eq_true h2
  have h3 := of_decide_eq_true h3
  refine ⟨fun C hC => ?_, h2, h3, fun C hC => ?_, fun p hp => (of_decide_eq_true (List.all_eq_true.mp h5 p hp) : PySem.W.findIn K (.ref (gaC K p.1)) (Str.ofString p.2) = some none), fun p hp => conB_ok (List.all_eq_true.mp h6 p hp), fun q hq => of_decide_eq_true (List.all_eq_true.mp h7 q hq)⟩
  · obtain ⟨a1, z⟩ := Bool.and_eq_true_iff.mp (List.all_eq_true.mp h1 C hC)
    obtain ⟨a2, z⟩ := Bool.and_eq_true_iff.mp z
    obtain ⟨a3, z⟩ := Bool.and_eq_true_iff.mp z
    obtain ⟨a4, z⟩ := Bool.and_eq_true_iff.mp z
    obtain ⟨a5, a6⟩ := Bool.and_eq_true_iff.mp z
    exact ⟨⟨a1, a2, a3, of_decide_eq_true a4⟩, of_decide_eq_true a5, of_decide_eq_true a6⟩
  · obtain ⟨a1, z⟩ := Bool.and_eq_true_iff.mp (List.all_eq_true.mp h4 C hC)
    obtain ⟨a2, z⟩ := Bool.and_eq_true_iff.mp z
    obtain ⟨a3, z⟩ := Bool.and_eq_true_iff.mp z
    obtain ⟨a4, z⟩ := Bool.and_eq_true_iff.mp z
    obtain ⟨a5, a6⟩ := Bool.and_eq_true_iff.mp z
    exact ⟨of_decide_eq_true a1, of_decide_eq_true a2, of_decide_eq_true a3, a4, of_decide_eq_true a5, h2, h3, of_decide_eq_true a6⟩

/-! ### attributes -/
theorem ofs_inj {a b : String} (h : Str.ofString a = Str.ofString b) : a = b := by
  rw [Str.ofString_eq_toList, Str.ofString_eq_toList] at h
  have h1 : (a.toList.map Char.toNat) = b.toList.map Char.toNat := by simpa using h
  have key : ∀ {l k : List Char}, l.map Char.toNat = k.map Char.toNat → l = k := by
    intro l
    induction l with
    | nil => intro k h; cases k with
      | nil => rfl
      | cons y k => simp at h
    | cons x l ih => intro k h; cases k with
      | nil => simp at h
      | cons y k =>
        simp only [List.map_cons, List.cons.injEq] at h
        rw [Char.toNat_inj.mp h.1, ih h.2]
  have h2 : a.toList = b.toList := key h1
  exact String.toList_inj.mp h2
theorem fsV_lookup {K : PySem.W.Frag} {m : Nat → Addr} {n : Nat} {G : Hp} {f : String} {d : D} : ∀ {fs : List String} {vs : List V} {xs : List D}, RpL K m n G vs xs → fldD f fs xs = some d → ∃ v, (fsV fs vs).lookup (Str.ofString f) = some v ∧ Rp K m n G v d
  | [], _, xs, _, e => by cases xs <;> simp [fldD] at e
  | g :: fs, _, [], _, e => by simp [fldD] at e
  | g :: fs, _, x :: xs, r, e => by
    cases r with
    | @cons v vs _ _ h1 h2 =>
      unfold fldD at e
      by_cases hg : g = f
      · rw [if_pos hg] at e
        cases e
        subst hg
        exact ⟨v, by simp [fsV, List.lookup_cons], h1⟩
      · rw [if_neg hg] at e
        obtain ⟨w, h3, h4⟩ := fsV_lookup h2 e
        refine ⟨w, ?_, h4⟩
        have ne : (Str.ofString f == Str.ofString g) = false := by
          rw [beq_eq_false_iff_ne]
          exact fun z => hg (ofs_inj z.symm)
        show List.lookup (Str.ofString f) ((Str.ofString g, v) :: fsV fs vs) = some w
        rw [List.lookup_cons, ne]
        exact h3
theorem fldD_at {K : PySem.W.Frag} {m : Nat → Addr} {n : Nat} {G : Hp} {f : String} {d : D} : ∀ {fs : List String} {vs : List V} {xs : List D}, RpL K m n G vs xs → fldD f fs xs = some d → ∃ j : Nat, fs[j]? = some f ∧ ∃ v, vs[j]? = some v ∧ Rp K m n G v d
  | [], _, xs, _, e => by cases xs <;> simp [fldD] at e
  | g :: fs, _, [], _, e => by simp [fldD] at e
  | g :: fs, _, x :: xs, r, e => by
    cases r with
    | cons h1 h2 =>
      unfold fldD at e
      split at e
      · rename_i hg
        cases e
        exact ⟨0, by simp [hg], _, rfl, h1⟩
      · obtain ⟨j, e1, v, e2, r3⟩ := fldD_at h2 e
        exact ⟨j + 1, by simpa using e1, v, by simpa using e2, r3⟩
theorem fsV_none {f : String} : ∀ {fs : List String} {vs : List V}, f ∉ fs → (fsV fs vs).lookup (Str.ofString f) = none
  | [], vs, _ => by simp [fsV]
  | g :: fs, [], _ => by simp [fsV]
  | g :: fs, v :: vs, h => by
    have ne : (Str.ofString f == Str.ofString g) = false := by
      rw [beq_eq_false_iff_ne]
      exact fun z => h (by rw [ofs_inj z]; exact List.mem_cons_self)
    show List.lookup (Str.ofString f) ((Str.ofString g, v) :: fsV fs vs) = none
    rw [List.lookup_cons, ne]
    exact fsV_none fun z => h (List.mem_cons_of_mem _ z)
theorem conD_mem {C f : String} {d : D} : ∀ {l : List ((String × String) × Int)}, conD C f l = some d → ∃ i, d = .int i ∧ ((C, f), i) ∈ l
  | [], e => by simp [conD] at e
  | (k, i) :: r, e => by
    unfold conD at e
    split at e
    · rename_i h
      subst h
      cases e
      exact ⟨i, rfl, List.mem_cons_self⟩
    · obtain ⟨j, h1, h2⟩ := conD_mem e
      exact ⟨j, h1, List.mem_cons_of_mem _ h2⟩
section
variable {X : Cx} {W : WX} {a b c e : Expr} {es : List Expr} {fa fb fc : Ex} {pos p : Pos} {P : Pg}
/-- e.f by values: a field of an instance, a number of its class, a field of an exception -/
def tAttr (K : PySem.W.Frag) (ta : TE) (f : Str) : TE := fun σ H Q => ta σ H fun x H1 =>
  (∃ a C dx fs v, x = .ref a ∧ H1 a = some (.ins C dx fs) ∧ Cls K C ∧ NoAttr K C f ∧ fs.lookup f = some v ∧ Q v H1) ∨
  (∃ a C dx fs v u, x = .ref a ∧ H1 a = some (.ins C dx fs) ∧ Cls K C ∧ Con K C f v u ∧ fs.lookup f = none ∧ Q v H1) ∨
  (∃ a C dd fs v, x = .ref a ∧ H1 a = some (XO a (.ref C) (some dd)) ∧ ExcC K C ∧ NoAttr K C f ∧ H1 dd = some (.xd fs) ∧ fs.lookup f = some v ∧ Q v H1)
theorem pe_attr {f : Str} {te : TE} (he : PE X e te) (hb : attributeBase e f X.env (eval e X.env) = eval e X.env) : PE X (.Attribute e f pos) (tAttr X.K te f) := by
  refine ⟨fun pins s σ H Q I h => ?_⟩
  refine attr_of hb (thn (he.run pins s σ H _ I h) fun u s1 ⟨x, H1, I1, rx, h1⟩ => ?_)
  rcases h1 with ⟨a, C, dx, fs, v, ex, ea, c, n, l, q⟩ | ⟨a, C, dx, fs, v, u0, ex, ea, c, k, l, q⟩ | ⟨a, C, dd, fs, v, ex, ea, c, n, ed, l, q⟩
  · subst ex
    obtain rfl : u = Value.ref a := rx
    exact getattr_ok I1 ea c n l fun u' s2 I2 ru => ⟨v, H1, I2, ru, q⟩
  · subst ex
    obtain rfl : u = Value.ref a := rx
    exact getcon_ok I1 ea c k l fun s2 I2 => ⟨v, H1, I2, k.rel, q⟩
  · subst ex
    obtain rfl : u = Value.ref a := rx
    obtain ⟨⟨oe, vs, ho, hz, hv⟩, _, _⟩ := (show ObjOk X.prog X.w H1 s1.heap a (XO a (.ref C) (some dd)) from I1.hok a _ ea)
    have hx : ObjOk X.prog X.w H1 s1.heap dd (.xd fs) := I1.hok dd _ ed
    obtain ⟨mA, hns, hr⟩ := hx
    obtain ⟨od, hod, hl⟩ := lookIn_ns hns
    obtain ⟨u, hu, ru⟩ := RelO.some_of (v := v) (o := mA f) (by rw [← l]; exact hr f)
    have J : PySem.W.InstAt s1.heap a oe C (some od) := ⟨ho, hz.1, by unfold PySem.W.notCls; rw [hv] <;> rfl, by rw [hz.2]; exact hod⟩
    exact HandSPX.exc_get I1.kIn J c.hg c.hk c.hs (PySem.W.findObj_own c.hd n rfl (by rw [hl, hu])) (handed_of ru) ⟨v, H1, I1.tok _, ru, q⟩
theorem ei_fld {f : String} (O : POk X.K P) (ha : EI X W e fa) (hb : attributeBase e (Str.ofString f) X.env (eval e X.env) = eval e X.env := by rfl) : EI X W (.Attribute e (Str.ofString f) pos) (eFld P fa f) := by
  refine peI (pe_attr ha hb) fun σ H Q ⟨env, G, m, st, er, S, w⟩ => ?_
  refine ⟨env, G, m, st, er, S, w.bnd.imp fun x st1 G1 m1 H1 t1 S1 w1 v rv => ?_⟩
  have key : ∀ {a dx : Addr} {C : String} {ns : List String} {vs : List V} {xs : List D} {z : D}, H1 a = some (.ins (gaC X.K C) dx (fsV ns vs)) → RpL X.K m1 st1.length G1 vs xs → attrD P C f ns xs = some z → (∀ w, Rp X.K m1 st1.length G1 w z → Q w H1) →
      (∃ a' C dx fs v, V.ref a = .ref a' ∧ H1 a' = some (.ins C dx fs) ∧ Cls X.K C ∧ NoAttr X.K C (Str.ofString f) ∧ fs.lookup (Str.ofString f) = some v ∧ Q v H1) ∨
      (∃ a' C dx fs v u, V.ref a = .ref a' ∧ H1 a' = some (.ins C dx fs) ∧ Cls X.K C ∧ Con X.K C (Str.ofString f) v u ∧ fs.lookup (Str.ofString f) = none ∧ Q v H1) := by
    intro a dx C ns vs xs z ha rl ez q
    unfold attrD at ez
    split at ez
    · rename_i hC
      have hC := (O.own C hC).1
      split at ez
      · rename_i hf
        obtain ⟨u, h1, h2⟩ := fsV_lookup rl ez
        exact .inl ⟨a, _, dx, _, u, rfl, ha, hC, O.fld _ hf, h1, q u h2⟩
      · split at ez
        · cases ez
        · rename_i hn
          obtain ⟨i, rfl, hm⟩ := conD_mem ez
          obtain ⟨t, hc⟩ := O.con _ hm
          exact .inr ⟨a, _, dx, _, _, _, rfl, ha, hC, hc, fsV_none hn, q _ (.int i)⟩
    · cases ez
  split at w1
  · rename_i C fs xs
    unfold R.of at w1
    split at w1
    · rename_i z ez
      cases rv with
      | obj h1 h2 h3 =>
        rcases key (S1.ex _ _ h1) h3 ez (fun w r => w1.now S1 w r) with h | h
        · exact .inl h
        · exact .inr (.inl h)
    · exact w1.elim
  · exact w1.elim
  · split at w1
    · rename_i n C fs xs q
      unfold R.of at w1
      split at w1
      · rename_i z ez
        cases rv with
        | ref hn =>
          obtain ⟨_, dx, vs, hv, hl, rl⟩ := S1.at_ _ _ q
          rcases key hv (rl.up (Same.refl _)) ez (fun w r => w1.now S1 w r) with h | h
          · exact .inl h
          · exact .inr (.inl h)
      · exact w1.elim
    · exact w1.elim
  · exact w1.elim
end
end Cb

set_option Elab.async false
set_option linter.all false
set_option maxRecDepth 100000
set_option maxHeartbeats 4000000
/-! CbSt2: statements. -/
namespace Cb
open PySem PySem.Spec PyProof.Rows L2
variable {pin : Pin}

/-- where a statement leads -/
def WS [Pin] (K : PySem.W.Frag) (G : Hp) (m : Nat → Addr) (n : Nat) (r : RS) (P : Fl → Sto → Hp → (Nat → Addr) → Hp → Prop) (E : WX) : Prop := match r with
  | .ok a st' => ∀ G' m' H', Tr G m n G' m' st'.length → SR K G' m' st' H' → P a st' G' m' H'
  | .exc C fs xs env st' => ∀ dd vs σ G' m' H', Tr G m n G' m' st'.length → SR K G' m' st' H' → XF1 G' dd fs vs → @RpL Pin.no K (fun _ => 0) 0 G' vs xs → ER K m' st'.length G' σ env → E (.ref (gaC K C)) dd σ H'
  | .bad => False
/-- a statement's ends, by values -/
def flP [Pin] (K : PySem.W.Frag) (D : Ends) : Fl → Sto → Hp → (Nat → Addr) → Hp → Prop
  | .nx env, st, G, m, H => ∀ σ, ER K m st.length G σ env → D.nx σ H
  | .rt d, st, G, m, H => ∀ v, Rp K m st.length G v d → D.rt v H
  | .bk env, st, G, m, H => ∀ σ, ER K m st.length G σ env → D.bk σ H
  | .ct env, st, G, m, H => ∀ σ, ER K m st.length G σ env → D.ct σ H
section
variable {K : PySem.W.Frag} {G G' H : Hp} {m m' : Nat → Addr} {n n' : Nat} {r : RS} {P P' : Fl → Sto → Hp → (Nat → Addr) → Hp → Prop} {E : WX}
theorem WS.from (t : Tr G m n G' m' n') (h : WS K G m n r P E) : WS K G' m' n' r P E := by
  cases r with
  | ok a st => exact fun G2 m2 H2 t2 S => h G2 m2 H2 (t.trans t2) S
  | exc C fs xs env st => exact fun dd vs σ G2 m2 H2 t2 S => h dd vs σ G2 m2 H2 (t.trans t2) S
  | bad => exact h
theorem WS.now {fl : Fl} {st : Sto} (h : WS K G m st.length (.ok fl st) P E) (S : SR K G m st H) : P fl st G m H := h G m H Tr.refl S
theorem WS.imp (h : WS K G m n r P E) (i : ∀ a st' G' m' H', Tr G m n G' m' st'.length → SR K G' m' st' H' → P a st' G' m' H' → P' a st' G' m' H') : WS K G m n r P' E := by
  cases r with
  | ok a st => exact fun G2 m2 H2 t2 S => i _ _ _ _ _ t2 S (h G2 m2 H2 t2 S)
  | exc C fs xs env st => exact h
  | bad => exact h
theorem WS.st {α : Type} {a : R α} {env : Env} {k : α → Sto → RS} {σ : St} (er : ER K m n G σ env) (h : WS K G m n (a.st env k) P E) : Wp K G m n a (fun x st' G' m' _ => WS K G' m' st'.length (k x st') P E) fun c dd H' => E c dd σ H' := by
  cases a with
  | ok x st => exact fun G2 m2 H2 t2 S => WS.from t2 h
  | exc C fs xs st => exact fun dd vs G2 m2 H2 t2 S x r => h dd vs σ G2 m2 H2 t2 S x r (er.tr t2)
  | bad => exact h
end
def tS [Pin] (K : PySem.W.Frag) (W : WX) (f : Sx) : TS := fun D σ H => ∃ env G m st, ER K m st.length G σ env ∧ SR K G m st H ∧ WS K G m st.length (f env st) (flP K D) W
abbrev SI [Pin] (X : Cx) (W : WX) (s : Stmt) (f : Sx) : Prop := PS X s (tS X.K W f)
abbrev BI [Pin] (X : Cx) (W : WX) (s : List Stmt) (f : Sx) : Prop := PSs X s (tS X.K W f)
theorem psI {X : Cx} {s : Stmt} {t t' : TS} (h : PS X s t) (i : ∀ D σ H, t' D σ H → t D σ H) : PS X s t' := ⟨fun pins s σ H D I q => h.run pins s σ H D I (i D σ H q)⟩
theorem pssI {X : Cx} {s : List Stmt} {t t' : TS} (h : PSs X s t) (i : ∀ D σ H, t' D σ H → t D σ H) : PSs X s t' := ⟨fun pins s σ H D I q => h.run pins s σ H D I (i D σ H q)⟩

/-! ### targets -/
def tG [Pin] (K : PySem.W.Frag) (vs : List Nat) (f : Gx) : TG := fun v σ H Q => ∃ env G m st d env', ER K m st.length G σ env ∧ SR K G m st H ∧ Rp K m st.length G v d ∧ f d env = some env' ∧ ∀ σ', ER K m st.length G σ' env' → wipe σ' vs = wipe σ vs → Q σ' H
def tGs [Pin] (K : PySem.W.Frag) (vs : List Nat) (f : List D → Env → Option Env) : TGs := fun us σ H Q => ∃ env G m st ds env', ER K m st.length G σ env ∧ SR K G m st H ∧ RpL K m st.length G us ds ∧ f ds env = some env' ∧ ∀ σ', ER K m st.length G σ' env' → wipe σ' vs = wipe σ vs → Q σ' H
abbrev GI [Pin] (X : Cx) (vs : List Nat) (e : Expr) (f : Gx) : Prop := PG X e (tG X.K vs f)
abbrev GsI [Pin] (X : Cx) (vs : List Nat) (es : List Expr) (f : List D → Env → Option Env) : Prop := PGs X es (tGs X.K vs f)
theorem pgI {X : Cx} {e : Expr} {t t' : TG} (h : PG X e t) (i : ∀ v σ H Q, t' v σ H Q → t v σ H Q) : PG X e t' := ⟨fun pins s σ H v u Q I r q => h.run pins s σ H v u Q I r (i v σ H Q q)⟩
theorem pgsI {X : Cx} {e : List Expr} {t t' : TGs} (h : PGs X e t) (i : ∀ v σ H Q, t' v σ H Q → t v σ H Q) : PGs X e t' := ⟨fun pins s σ H v u Q I r q => h.run pins s σ H v u Q I r (i v σ H Q q)⟩
theorem wipe_set {σ : St} {i : Nat} {o : Option V} : ∀ {vs : List Nat}, i ∈ vs → wipe (σ.set i o) vs = wipe σ vs
  | [], h => absurd h (by simp)
  | v :: vs, h => by
    unfold wipe
    by_cases hv : i ∈ vs
    · rw [wipe_set hv]
    · have e : v = i := by
        rcases List.mem_cons.mp h with h | h
        · exact h.symm
        · exact absurd h hv
      subst e
      have key : ∀ (vs : List Nat), wipe (σ.set v o) vs = (wipe σ vs).set v o ∨ wipe (σ.set v o) vs = wipe σ vs := by
        intro vs
        induction vs with
        | nil => exact .inl rfl
        | cons w ws ih =>
          unfold wipe
          by_cases hw : w = v
          · subst hw
            right
            rcases ih with ih | ih
            · rw [ih, List.set_set]
            · rw [ih]
          · rcases ih with ih | ih
            · left
              rw [ih, List.set_comm _ _ (Ne.symm hw)]
            · right
              rw [ih]
      rcases key vs with h | h
      · rw [h, List.set_set]
      · rw [h]
section
variable {X : Cx} {W : WX} {vs : List Nat} {pos : Pos}
theorem gi_name (i : Nat) {x : Str} (hN : X.N.Nodup) (hi : X.N[i]? = some x := by rfl) (hx : Loc X.env.scope x := by first | exact Or.inl rfl | exact Or.inr rfl) (hv : i ∈ vs := by decide) (hf : X.fn x = true ∨ X.env.scope.names.lookup x = some .local := by first | exact .inl rfl | exact .inr rfl | assumption) : GI X vs (.Name x pos) (gName i) := by
  refine pgI (pg_name hN hi hx hf) fun v σ H Q ⟨env, G, m, st, d, env', er, S, r, e, q⟩ => ?_
  cases e
  exact q _ (er.set i r) (wipe_set hv)
theorem gsi_nil : GsI X vs [] gNil := by
  refine pgsI pgs_nil fun us σ H Q ⟨env, G, m, st, ds, env', er, S, r, e, q⟩ => ?_
  unfold gNil at e
  cases ds with
  | nil =>
    cases r
    cases e
    exact ⟨rfl, q _ er rfl⟩
  | cons d ds => cases e
theorem gsi_cons {e : Expr} {es : List Expr} {f : Gx} {g : List D → Env → Option Env} (h1 : GI X vs e f) (h2 : GsI X vs es g)
    (hs : (assignEach (e :: es) X.env).map (·.2) = assign e X.env :: (assignEach es X.env).map (·.2) := by rfl) : GsI X vs (e :: es) (gCons f g) := by
  refine pgsI (pgs_cons h1 h2 hs) fun us σ H Q ⟨env, G, m, st, ds, env', er, S, r, e, q⟩ => ?_
  cases ds with
  | nil => cases e
  | cons d ds =>
    cases r with
    | @cons v us _ _ r1 r2 =>
      have e' : (f d env).bind (g ds) = some env' := e
      cases h : f d env with
      | none => rw [h] at e'; cases e'
      | some env1 =>
        rw [h] at e'
        refine ⟨v, us, rfl, env, G, m, st, d, env1, er, S, r1, h, fun σ1 er1 w1 => ?_⟩
        exact ⟨env1, G, m, st, ds, env', er1, S, r2, e', fun σ2 er2 w2 => q σ2 er2 (w2.trans w1)⟩
theorem gi_tup {es : List Expr} {k : Nat} {g : List D → Env → Option Env} (n : Nat) (hc : X.calm = true) (h : GsI X vs es g) (hg : ∀ ds env env', g ds env = some env' → ds.length = n)
    (hn : (assignEach es X.env).length = n := by rfl) (hst : (assignEach es X.env).findIdx? (·.1) = none := by rfl) : GI X vs (.Tuple es k pos) (gTup g) := by
  refine pgI (pg_tup hc h hn hst) fun v σ H Q ⟨env, G, m, st, d, env', er, S, r, e, q⟩ => ?_
  unfold gTup at e
  split at e
  · rename_i ds
    cases r with
    | tup h1 h2 => exact ⟨_, _, rfl, same_t S.ex h1, by rw [h2.length]; exact hg _ _ _ e, env, G, m, st, ds, env', er, S, h2, e, q⟩
  · cases e
theorem len_nil : ∀ ds env env', gNil ds env = some env' → ds.length = 0 := fun ds env env' e => by
  cases ds with
  | nil => rfl
  | cons d ds => cases e
theorem len_cons {f : Gx} {g : List D → Env → Option Env} {n : Nat} (h : ∀ ds env env', g ds env = some env' → ds.length = n) : ∀ ds env env', gCons f g ds env = some env' → ds.length = n + 1 := fun ds env env' e => by
  cases ds with
  | nil => cases e
  | cons d ds =>
    have e' : (f d env).bind (g ds) = some env' := e
    cases hf : f d env with
    | none => rw [hf] at e'; cases e'
    | some env1 =>
      rw [hf] at e'
      rw [List.length_cons, h _ _ _ e']
end

/-! ### statements -/
section
variable {X : Cx} {W : WX} {a b c e : Expr} {es : List Expr} {fa fb fc : Ex} {pos p : Pos} {P : Pg} {s : Stmt} {ss ss' : List Stmt} {f g : Sx}
theorem bi_nil : BI X W [] sNil := by
  refine pssI pss_nil fun D σ H ⟨env, G, m, st, er, S, w⟩ => ?_
  exact (show WS X.K G m st.length (.ok (.nx env) st) _ _ from w).now S σ er
theorem seq_key {K : PySem.W.Frag} {D : Ends} {σ : St} {H : Hp} (h : tS K W (sSeq f g) D σ H) : tS K W f { D with nx := tS K W g D } σ H := by
  obtain ⟨env, G, m, st, er, S, w⟩ := h
  refine ⟨env, G, m, st, er, S, ?_⟩
  unfold sSeq at w
  cases h : f env st with
  | ok fl st1 =>
    rw [h] at w
    cases fl with
    | nx env1 => exact fun G1 m1 H1 t1 S1 σ1 er1 => ⟨env1, G1, m1, st1, er1, S1, WS.from t1 w⟩
    | rt d => exact w
    | bk env1 => exact w
    | ct env1 => exact w
  | exc C fs xs env1 st1 =>
    rw [h] at w
    exact w
  | bad =>
    rw [h] at w
    exact w
theorem bi_cons (h1 : SI X W s f) (h2 : BI X W ss g) : BI X W (s :: ss) (sSeq f g) := pssI (pss_cons h1 h2) fun _ _ _ h => seq_key h
theorem bi_one (h1 : SI X W s f) : BI X W [s] f := pss_one h1
theorem si_bad : SI X W s sBad := ⟨fun _ _ _ _ _ _ ⟨_, _, _, _, _, _, w⟩ => w.elim⟩
theorem bi_bad : BI X W ss sBad := ⟨fun _ _ _ _ _ _ ⟨_, _, _, _, _, _, w⟩ => w.elim⟩
theorem ei_bad : EI X W e eBad := ⟨fun _ _ _ _ _ _ ⟨_, _, _, _, _, _, w⟩ => w.elim⟩
theorem si_pass : SI X W (.Pass pos) sNil := by
  refine psI ps_pass fun D σ H ⟨env, G, m, st, er, S, w⟩ => ?_
  exact (show WS X.K G m st.length (.ok (.nx env) st) _ _ from w).now S σ er
theorem si_break : SI X W (.Break pos) sBreak := by
  refine psI ps_break fun D σ H ⟨env, G, m, st, er, S, w⟩ => ?_
  exact (show WS X.K G m st.length (.ok (.bk env) st) _ _ from w).now S σ er
theorem si_cont : SI X W (.Continue pos) sCont := by
  refine psI ps_continue fun D σ H ⟨env, G, m, st, er, S, w⟩ => ?_
  exact (show WS X.K G m st.length (.ok (.ct env) st) _ _ from w).now S σ er
theorem si_if {t : Tx} (hc : TI' X W c t) (ha : BI X W ss f) (hb : BI X W ss' g) : SI X W (.If c ss ss' pos) (sIf t f g) := by
  refine psI (ps_if hc ha hb) fun D σ H ⟨env, G, m, st, er, S, w⟩ => ?_
  refine ⟨env, G, m, st, er, S, (WS.st er w).imp fun x st1 G1 m1 H1 t1 S1 w1 => ?_⟩
  cases x with
  | true =>
    rw [if_pos rfl] at w1 ⊢
    exact ⟨env, G1, m1, st1, er.tr t1, S1, w1⟩
  | false =>
    rw [if_neg Bool.false_ne_true] at w1 ⊢
    exact ⟨env, G1, m1, st1, er.tr t1, S1, w1⟩
theorem si_ret (ha : EI X W e fa) : SI X W (.Return (some e) pos) (sRet fa) := by
  refine psI (ps_ret ha) fun D σ H ⟨env, G, m, st, er, S, w⟩ => ?_
  exact ⟨env, G, m, st, er, S, (WS.st er w).imp fun x st1 G1 m1 H1 t1 S1 w1 => w1.now S1⟩
theorem si_retN : SI X W (.Return none pos) (sRet (eC .non)) := by
  refine psI ps_retN fun D σ H ⟨env, G, m, st, er, S, w⟩ => ?_
  exact ((show WS X.K G m st.length (.ok (.rt .non) st) _ _ from w).now S) _ .non
theorem si_drop (ha : EI X W e fa) (hs : swapsWith e none pos.line X.env = pure false := by rfl) : SI X W (.Expr e pos) (sDrop fa) := by
  refine psI (ps_expr ha hs) fun D σ H ⟨env, G, m, st, er, S, w⟩ => ?_
  exact ⟨env, G, m, st, er, S, (WS.st er w).imp fun x st1 G1 m1 H1 t1 S1 w1 _ _ => w1.now S1 σ (er.tr t1)⟩
theorem asg_key {vs : List Nat} {g : Gx} {K : PySem.W.Frag} {D : Ends} {σ : St} {H : Hp} (h : tS K W (sAsg fa g) D σ H) : tE K W fa σ H fun x H1 => tG K vs g x σ H1 D.nx := by
  obtain ⟨env, G, m, st, er, S, w⟩ := h
  refine ⟨env, G, m, st, er, S, (WS.st er w).imp fun x st1 G1 m1 H1 t1 S1 w1 v rv => ?_⟩
  split at w1
  · rename_i env1 h
    exact ⟨env, G1, m1, st1, x, env1, er.tr t1, S1, rv, h, fun σ' er' _ => w1.now S1 σ' er'⟩
  · exact w1.elim
/-- name = e -/
theorem si_set (i : Nat) {x : Str} {pos' : Pos} (hN : X.N.Nodup) (ha : EI X W e fa) (hi : X.N[i]? = some x := by rfl) (hx : Loc X.env.scope x := by first | exact Or.inl rfl | exact Or.inr rfl) (hs : swapsWith e (some (.Name x pos')) pos.line X.env = pure false := by rfl) (hf : X.fn x = true ∨ X.env.scope.names.lookup x = some .local := by first | exact .inl rfl | exact .inr rfl | assumption) :
    SI X W (.Assign [.Name x pos'] e pos) (sAsg fa (gName i)) := by
  refine psI (ps_set hN hi hx ha hs hf) fun D σ H ⟨env, G, m, st, er, S, w⟩ => ?_
  refine ⟨env, G, m, st, er, S, (WS.st er w).imp fun x st1 G1 m1 H1 t1 S1 w1 v rv => ?_⟩
  exact (show WS X.K G1 m1 st1.length (.ok (.nx (env.set i (some x))) st1) _ _ from w1).now S1 _ ((er.tr t1).set i rv)
/-- target = e -/
theorem si_asg {vs : List Nat} {tg : Expr} {g : Gx} (ha : EI X W e fa) (hg : GI X vs tg g) (hs : swapsWithSole [tg] e pos.line X.env = pure false := by rfl) (hw : swappedStores [tg] e X.env = pure none := by rfl)
    (h1 : (assignEach [tg] X.env).map (·.2) = [assign tg X.env] := by rfl) : SI X W (.Assign [tg] e pos) (sAsg fa g) :=
  psI (ps_asg ha hg hs hw h1) fun _ _ _ h => asg_key h
theorem frz_ok {i : Nat} {env : Env} {st st1 : Sto} {fl : Fl} (h : sFrz i env st = .ok fl st1) : ∃ n xs, env[i]? = some (some (.ref n)) ∧ st[n]? = some (.lst xs) ∧ fl = .nx (env.set i (some (.lst xs))) ∧ st1 = st.set n .dead := by
  unfold sFrz at h
  split at h
  · rename_i n hi
    split at h
    · rename_i xs hn
      cases h
      exact ⟨n, xs, hi, hn, rfl, rfl⟩
    · cases h
  · cases h
theorem frz_exc {i : Nat} {env env1 : Env} {st st1 : Sto} {C : String} {fs : List String} {xs : List D} (h : sFrz i env st = .exc C fs xs env1 st1) : False := by
  unfold sFrz at h
  split at h
  · split at h
    · cases h
    · cases h
  · cases h
/-- from here on the list in slot i is built no further -/
theorem bi_frz (i : Nat) (h : BI X W ss f) : BI X W ss (sSeq (sFrz i) f) := by
  refine pssI h fun D σ H ⟨env, G, m, st, er, S, w⟩ => ?_
  unfold sSeq at w
  cases hf : sFrz i env st with
  | bad =>
    rw [hf] at w
    exact w.elim
  | exc C fs xs env1 st1 => exact (frz_exc hf).elim
  | ok fl st1 =>
    rw [hf] at w
    obtain ⟨n, xs, hi, hn, rfl, rfl⟩ := frz_ok hf
    obtain ⟨v, h1, h2⟩ := er.2 i _ hi
    cases h2 with
    | ref hl =>
      obtain ⟨G', t, S', r⟩ := S.frz hn
      refine ⟨_, G', m, _, ?_, S', WS.from t w⟩
      have er' := er.tr t
      refine ⟨by rw [List.length_set]; exact er'.1, fun j d e => ?_⟩
      by_cases hj : j = i
      · subst hj
        have hlt : j < env.length := (List.getElem?_eq_some_iff.mp hi).1
        rw [List.getElem?_set_self hlt] at e
        cases e
        exact ⟨_, h1, r _⟩
      · rw [List.getElem?_set_ne (Ne.symm hj)] at e
        exact er'.2 j d e
end
end Cb

set_option Elab.async false
set_option linter.all false
set_option maxRecDepth 100000
set_option maxHeartbeats 4000000
/-! CbEnum: enumerate over a tuple. -/
namespace PySem
open Sem (wp)
set_option maxHeartbeats 1000000 in
theorem meets_enumT {v : Value} {o : Obj} {H : Heap → Prop} (B : Begins v o H) :
    Meets (Builtin.«enumerate.__new__» ⟨[.type "enumerate", v], []⟩) (fun _ R s => H s.heap ∧
      R (.ok (.ret (.ref (s.heap.push o).objs.size))) { s with heap := (s.heap.push o).push { cls := .type "enumerate", data := .fields #[.none, .bool false, .ref s.heap.objs.size, rawInt 0, .none, .none] } }) :=
  .of_wp fun prog w A R s h => by
    obtain ⟨hp, g, d, tk, os⟩ := s
    obtain ⟨h1, h⟩ := h
    have hsub := sub_enumerate
    have q1 : ∀ {A' : Around} {E : Value → Shared → Prop} {Q : Value → Shared → Prop}, Q (.ref hp.objs.size) ⟨hp.push o, g, d, tk, os⟩ → wpAny (model prog w) A' (pyIter v) Q E ⟨hp, g, d, tk, os⟩ :=
      fun q => B.iter prog w _ _ ⟨hp, g, d, tk, os⟩ _ h1 q
    wp_walk using q1
    refine wpAny_stack_any fun st => wpAny_pure ?_
    split
    · rename_i c _ _ _ _ _
      cases (c == Value.type "enumerate")
      · wp_walk using q1
        exact ⟨_, rfl, h⟩
      · wp_walk using q1
        exact ⟨_, rfl, h⟩
    · wp_walk using q1
      exact ⟨_, rfl, h⟩
theorem enumT_begins {prog : Program} {w : World} {A : Around} {E : Value → Shared → Prop} {s : Shared} {v : Value} {o : Obj} {H : Heap → Prop} {Q : Value → Shared → Prop} (B : Begins v o H) (h1 : H s.heap)
    (h : ∀ h', IsEnum h' (s.heap.objs.size + 1) s.heap.objs.size 0 .none → h'.get? s.heap.objs.size = some o → h'.objs.size = s.heap.objs.size + 2 →
      (∀ b o, s.heap.get? b = some o → h'.get? b = some o) → Q (.ref (s.heap.objs.size + 1)) { s with heap := h' }) :
    wpAny (model prog w) A (call (.type "enumerate") [v]) Q E s := by
  refine callType_new F.called_enumerate (by decide) (F.typeCall_enumerate_1 _) (F.newCall_enumerate_1 _) (fun obj => F.args_object_init_2 obj _) F.entry_enumerate_new (meets_enumT B) ⟨h1, ?_⟩
  have hz : (s.heap.push o).objs.size = s.heap.objs.size + 1 := Heap.size_push ..
  show _ ∧ _
  rw [hz]
  have he : IsEnum ((s.heap.push o).push { cls := .type "enumerate", data := .fields #[.none, .bool false, .ref s.heap.objs.size, rawInt 0, .none, .none] }) (s.heap.objs.size + 1) s.heap.objs.size 0 .none := by
    have := Heap.get?_push_size (s.heap.push o) (o := { cls := .type "enumerate", data := .fields #[.none, .bool false, .ref s.heap.objs.size, rawInt 0, .none, .none] }) rfl
    rw [hz] at this
    exact this
  exact ⟨⟨_, he, rfl⟩, h _ he (Heap.get?_push_of_some _ (Heap.get?_push_size _ B.free)) (by rw [Heap.size_push, hz]) fun b o x => Heap.get?_push_of_some _ (Heap.get?_push_of_some _ x)⟩
end PySem
namespace Cb
open PySem PySem.Spec PyProof.Rows L2
variable {pin : Pin}
def Itet (K : PySem.W.Frag) (a : Addr) : It :=
  ⟨fun i H => ∃ (xs : List V) (x : V), SqT K H a xs ∧ xs[i]? = some x, fun i H v H' => ∃ T x, v = .ref T ∧ H T = none ∧ H' = upd H T (.tup [.int (i : Nat), x]) ∧ ∀ xs, SqT K H a xs → xs[i]? = some x, fun i H => ∃ xs : List V, SqT K H a xs ∧ xs.length ≤ i⟩
theorem turn_enumT {P : Program} {w : World} {K : PySem.W.Frag} {elts : List Expr} {kk : Nat} {tpos : Pos} (a e it : Addr) (na : a ≠ e) (nb : a ≠ it) :
    Turn P w K (.Tuple elts kk tpos) (Itet K a) [e, it] e (fun i h => (∃ old, IsEnum h e it ((i : Nat) : Int) old) ∧ h.IsTupleIter it a i ∧ e ≠ it) where
  mem := by simp
  obj := fun i h st b hb => by
    obtain ⟨⟨old, he⟩, ⟨o, ho, hc, hd⟩, _⟩ := st
    have e' : b = e ∨ b = it := by simpa using hb
    rcases e' with z | z
    · rw [z]; exact ⟨_, he, fun v q => nomatch q⟩
    · rw [z]; exact ⟨o, ho, fun v q => by rw [hd] at q; cases q⟩
  keep := fun i h h' st k => let ⟨⟨old, he⟩, hi, hne⟩ := st; ⟨⟨old, k e (by simp) _ he⟩, hi.at fun o q => k it (by simp) o q, hne⟩
  item := by
    intro X hP hw hK hc i pins s σ H E I hf st hg
    subst hP hw hK
    obtain ⟨⟨old, he⟩, hit, hne⟩ := st
    obtain ⟨xs, x, hq, hx⟩ := hg
    obtain ⟨its, rv, p, hz⟩ := I.tuple hq
    obtain ⟨u, hu, ru⟩ := rv.get hx
    have hel : e < s.heap.objs.size := Heap.lt_size he
    have hil : it < s.heap.objs.size := by obtain ⟨_, q, _⟩ := hit; exact Heap.lt_size q
    have hpt : s.heap.IsTuple a its.toArray := p
    have hul : i < its.toArray.size := by
      have := (List.getElem?_eq_some_iff.mp hu).1
      simpa using this
    have D := Draws.tuple (prog := X.prog) (w := X.w) (A := X.A.in1) (show X.A.in1.handled = none from I.ok.hd hc) it a nb its.toArray
    refine wpAny_pyNext_enum_itemD D he ⟨hit, hpt⟩ hul hne (by simp [hne, Ne.symm na]) fun x' h' tk hpx ho hst' hT hsz hk => ?_
    have hxu : x' = u := by
      have h1 : its[i]? = some x' := by simpa using hpx
      rw [hu] at h1
      exact (Option.some.inj h1).symm
    subst hxu
    refine ⟨_, rfl, wpAny_letOwnedTupleGo_enum (s := { s with heap := h', toks := tk + 1 }) ho fun h'' he' sb => ?_⟩
    have hT2 : h''.get? s.heap.objs.size = some { cls := .type "tuple", data := .seq #[.int i tk, x'] } := (sb.2 _ (Nat.ne_of_gt hel)).trans hT
    have new : ObjOk X.prog X.w (upd H s.heap.objs.size (.tup [.int (i : Nat), x])) h'' s.heap.objs.size (.tup [.int (i : Nat), x]) :=
      ⟨by show 2 ≤ sizeLine; decide, [.int i tk, x'], .cons ⟨_, rfl⟩ (.cons ru .nil), ⟨_, hT2, rfl, _, rfl⟩⟩
    have I1 : Inv X pins σ (upd H s.heap.objs.size (.tup [.int (i : Nat), x])) { s with heap := h'', toks := tk + 1 } :=
      I.turnedNew (ch := [e, it]) (fun b ob hb q => (sb.2 b (fun z => hb (by simp [z]))).trans (hk b ob (fun z => hb (by simp [z])) (fun z => hb (by simp [z])) q)) hf (Nat.le_refl _) new
    refine ⟨.ref s.heap.objs.size, _, I1, rfl, ⟨_, x, rfl, I.hok.fresh (Nat.le_refl _), rfl, fun ys hy => by rw [I.tuple_inj hy hq]; exact hx⟩, ⟨⟨x', ?_⟩, hst'.1.at fun o q => (sb.2 it (Ne.symm hne)).trans q, hne⟩, fun b hb => ?_⟩
    · have e1 : ((i + 1 : Nat) : Int) = (i : Int) + 1 := by omega
      rw [e1]; exact he'
    · have hb' : b < s.heap.objs.size := by
        have e' : b = e ∨ b = it := by simpa using hb
        rcases e' with z | z
        · rw [z]; exact hel
        · rw [z]; exact hil
      rw [upd_ne (Nat.ne_of_lt hb')]
      exact (hf b hb).1
  done := by
    intro X hP hw hK hc i pins s σ H E I hf st hg
    subst hP hw hK
    obtain ⟨⟨old, he⟩, hit, hne⟩ := st
    obtain ⟨xs, hq, hx⟩ := hg
    obtain ⟨its, rv, p, hz⟩ := I.tuple hq
    obtain ⟨f0, f1, f2, f3, f4, f5⟩ := hf it (by simp)
    have hl := rv.length
    have hpt : s.heap.IsTuple a its.toArray := p
    have hh : X.A.in1.handled = none := I.ok.hd hc
    unfold pyNext
    refine wpAny_bind (wpAny_attempt (wpAny_callSpecial?_slot (name := Str.ofString "__next__") (show s.TypeIs (.ref e) "enumerate" from ⟨_, he, rfl⟩) F.slot_enumerate_next
      (wpAny_call_entry F.slot_enumerate_next ⟨_, he, rfl⟩ F.entry_enumerate_next ?_ (F.args_enumerate_next_1 _))))
    show wpAny _ _ (field (.ref e) 2 >>= _) _ _ _
    refine wpAny_bind (wpAny_field he rfl (x := .ref it) rfl ?_)
    refine wpAny_bind (wpAny_nextOf_tuple_end hh hit hpt (by simp; omega) fun h' x he' hx' => ?_)
    obtain ⟨o, ho, hc⟩ := hx'
    refine wpAny_bind (wpAny_isInstance (T := "StopIteration") (b := true) ⟨o, ho, hc⟩ isSubtype_stop ?_)
    exact wpAny_pure ⟨rfl, I.turned (t' := s.toks) (fun b o hb q => he' b o hb q) f0 f1 f3 f4 f5⟩
  self := fun A i s Q E st h => let ⟨⟨_, he⟩, _⟩ := st; wpAny_pyIter_enum he h
def iEnumT (K : PySem.W.Frag) (ta : TA) : TI := fun σ H R => ta σ H fun vs H1 => ∃ a xs, vs = [.ref a] ∧ SqT K H1 a xs ∧ R (Itet K a) H1
theorem pi_enumT {X : Cx} {e : Expr} {ta : TA} {p pos tpos : Pos} {elts : List Expr} {kk : Nat} (hg : Gl X "enumerate") (hm : X.mg "enumerate" = none) (ha : PA X [e] ta) (hs : starEach [e] X.env = [(false, eval e X.env)] := by rfl) :
    PI X (.Tuple elts kk tpos) (.Call (.Name "enumerate" p) [e] [] pos) (iEnumT X.K ta) := by
  refine ⟨fun pins s σ H R I h => ?_⟩
  refine Call_ (ld_blt I hg hm boot_enumerate (PyProof.Rows.callWith_type1 (thn (ha.run pos pins s σ H _ I h) fun us s1 ⟨vs, H1, I1, r1, q1⟩ => ?_) hs rfl))
  obtain ⟨a, xs, ex, hq, q⟩ := q1
  subst ex
  cases r1 with
  | cons r rr =>
    cases rr
    cases r
    obtain ⟨its, rv, p', hz⟩ := I1.tuple hq
    have hpt : s1.heap.IsTuple a its.toArray := p'
    have hal : a < s1.heap.objs.size := by obtain ⟨o, ho, _⟩ := hpt; exact Heap.lt_size ho
    refine enumT_begins (begins_tuple a its.toArray) hpt fun h' he hit hsz hk => wpAny_pyIter_enum he ?_
    have I2 : Inv X pins σ H1 { s1 with heap := h' } := I1.kept (t' := s1.toks) hk
    refine ⟨s1.heap.objs.size + 1, [s1.heap.objs.size + 1, s1.heap.objs.size], _, _, H1, rfl, I2, turn_enumT a (s1.heap.objs.size + 1) s1.heap.objs.size (Nat.ne_of_lt (Nat.lt_succ_of_lt hal)) (Nat.ne_of_lt hal), ⟨⟨.none, he⟩, ⟨_, hit, rfl, rfl⟩, Nat.succ_ne_self _⟩, fun b hb => ?_, q⟩
    have e' : b = s1.heap.objs.size + 1 ∨ b = s1.heap.objs.size := by simpa using hb
    have hle : s1.heap.objs.size ≤ b := by
      rcases e' with z | z
      · rw [z]; exact Nat.le_add_right _ _
      · rw [z]; exact Nat.le_refl _
    exact I1.fpOk hle (I1.hok.fresh hle)
end Cb

set_option Elab.async false
set_option linter.all false
set_option maxRecDepth 100000
set_option maxHeartbeats 4000000
/-! CbSt3: append, stores, loops, comprehensions. -/
namespace Cb
open PySem PySem.Spec PyProof.Rows L2
variable {pin : Pin}

section
variable {X : Cx} {W : WX} {a b c e : Expr} {es : List Expr} {fa fb fc : Ex} {pos p : Pos} {P : Pg} {s : Stmt} {ss ss' : List Stmt} {f g : Sx}
/-- xs.append(e), xs in slot i -/
theorem si_app (i : Nat) {o : Expr} {apos cpos : Pos} (ho : EI X W o (eVar i)) (ha : EI X W e fa)
    (hbase : attributeBase o "append" X.env (eval o X.env) = eval o X.env := by rfl)
    (hfew : ((backTo cpos (starEach [e] X.env)).all (fun x => !x.1) && (backToKw cpos (keywordEach [] X.env)).all (fun x => x.1.isSome)
      && decide ([e].length + ([] : List Keyword).length + (if ([] : List Keyword).isEmpty then 0 else 1) < 30)) = true := by rfl)
    (hline : (apos.endLine == cpos.line) = true := by rfl) (hs1 : starEach [e] X.env = (false, eval e X.env) :: starEach [] X.env := by rfl) (hplain : (backTo cpos (starEach [] X.env)).any (·.1) = false := by rfl)
    (hs : swapsWith (.Call (.Attribute o "append" apos) [e] [] cpos) none pos.line X.env = pure false := by rfl) : SI X W (.Expr (.Call (.Attribute o "append" apos) [e] [] cpos) pos) (sApp i fa) := by
  refine psI (ps_expr (pe_bm PySem.F.plainAttrs_list PySem.F.slot_list_append PySem.F.type_list_append mt_append ho (ai_cons ha ai_nil hs1) hbase hfew hline hs1 hplain) hs) fun D σ H ⟨env, G, m, st, er, S, w⟩ => ?_
  refine ⟨env, G, m, st, er, S, ?_⟩
  unfold sApp at w
  unfold eVar
  split at w
  · rename_i n hi
    split at w
    · rename_i xs hn
      rw [hi]
      refine fun G1 m1 H1 t1 S1 v rv => ?_
      cases rv with
      | ref hl =>
        obtain ⟨_, vs, hv, rl⟩ := S1.at_ _ _ hn
        refine ⟨.inl ⟨rfl, vs, SqL.of hv⟩, env, G1, m1, st, er.tr t1, S1, ?_⟩
        have w1 := WS.st (er.tr t1) (WS.from t1 w)
        unfold aCons
        have key : Wp X.K G1 m1 st.length (fa env st) (fun d st2 G2 m2 H2 => ∀ v, Rp X.K m2 st2.length G2 v d → rAppend (.ref (m1 n)) [v] H2 fun _ H3 => D.nx σ H3) fun c dd H' => W c dd σ H' := by
          refine w1.imp fun d st2 G2 m2 H2 t2 S2 w2 v rv => ?_
          split at w2
          · rename_i ys hm
            split at w2
            · rename_i hc
              obtain ⟨g2, us, hu, ru⟩ := S2.at_ _ _ hm
              rw [← t2.mm n hl]
              refine ⟨m2 n, us, v, rfl, rfl, hu, by rw [ru.length]; exact Nat.lt_of_lt_of_le hc.2 big, ?_⟩
              have S3 := S2.set (i := n) (o' := .lst (ys ++ [d])) (u := .lst (us ++ [v])) hm rfl ⟨g2, _, upd_same, ru.app (RpL.one (rv.gnd d v hc.1))⟩
              exact w2 G2 m2 _ S2.trSet S3 σ (((er.tr t1).tr t2).tr S2.trSet)
            · exact w2.elim
          · exact w2.elim
        cases hf : fa env st with
        | ok d st2 =>
          rw [hf] at key
          intro G2 m2 H2 t2 S2 vs rvs
          obtain ⟨v, rfl, rv⟩ := rp1 rvs
          exact key G2 m2 H2 t2 S2 v rv
        | exc C fs xs st2 =>
          rw [hf] at key
          exact key
        | bad =>
          rw [hf] at key
          exact key
    · exact w.elim
  · exact w.elim
/-- xs[k] = e, xs in slot i -/
theorem si_sets (i : Nat) {o k : Expr} {fk : Ex} {tpos : Pos} (ho : EI X W o (eVar i)) (hk : EI X W k fk) (ha : EI X W e fa)
    (hset : ∀ v, assign (.Subscript o k tpos) X.env v = (do
      let ov ← holding [v] (eval o X.env)
      let iv ← holding [v, ov] (eval k X.env)
      standAt tpos
      holding [v, ov, iv] (setItem ov iv v)
      release [v, ov, iv] []) := by intro _; rfl)
    (hs : swapsWithSole [.Subscript o k tpos] e pos.line X.env = pure false := by rfl) (hw : swappedStores [.Subscript o k tpos] e X.env = pure none := by rfl)
    (h1 : (assignEach [.Subscript o k tpos] X.env).map (·.2) = [assign (.Subscript o k tpos) X.env] := by rfl) : SI X W (.Assign [.Subscript o k tpos] e pos) (sSet i fk fa) := by
  refine psI (ps_asg ha (pg_sub ho hk set_list hset) hs hw h1) fun D σ H ⟨env, G, m, st, er, S, w⟩ => ?_
  refine ⟨env, G, m, st, er, S, (WS.st er w).imp fun d st1 G1 m1 H1 t1 S1 w1 v rv => ?_⟩
  refine ⟨env, G1, m1, st1, er.tr t1, S1, ?_⟩
  unfold eVar
  split at w1
  · rename_i n hi
    rw [hi]
    refine fun G2 m2 H2 t2 S2 u ru => ?_
    cases ru with
    | ref hl =>
      have er2 := (er.tr t1).tr t2
      refine ⟨env, G2, m2, st1, er2, S2, (WS.st er2 (WS.from t2 w1)).imp fun z st3 G3 m3 H3 t3 S3 w3 q rq => ?_⟩
      split at w3
      · rename_i j
        split at w3
        · rename_i xs hn
          split at w3
          · rename_i y hy
            split at w3
            · rename_i hg
              cases rq
              obtain ⟨g3, us, hu, rl⟩ := S3.at_ _ _ hn
              rw [← t3.mm n hl]
              refine ⟨m3 n, us, j, y, rfl, rfl, hu, by rw [rl.length]; exact hy, ?_⟩
              have rv3 := (rv.tr t2).tr t3
              have S4 := S3.set (i := n) (o' := .lst (xs.set y d)) (u := .lst (us.set y v)) hn rfl ⟨g3, _, upd_same, rl.setR y (rv3.gnd d v hg)⟩
              exact w3 G3 m3 _ S3.trSet S4 σ ((er2.tr t3).tr S3.trSet)
            · exact w3.elim
          · exact w3.elim
        · exact w3.elim
      · exact w3.elim
  · exact w1.elim
theorem putF_new {f : String} {v : V} : ∀ {fs : List String} {vs : List V}, fs.length = vs.length → f ∉ fs → putF (Str.ofString f) v (fsV fs vs) = fsV (fs ++ [f]) (vs ++ [v])
  | [], [], _, _ => rfl
  | g :: fs, u :: vs, h, hn => by
    have ne : Str.ofString g ≠ Str.ofString f := fun z => hn (by rw [ofs_inj z]; exact List.mem_cons_self)
    show (if Str.ofString g = Str.ofString f then _ else (Str.ofString g, u) :: putF (Str.ofString f) v (fsV fs vs)) = (Str.ofString g, u) :: fsV (fs ++ [f]) (vs ++ [v])
    rw [if_neg ne, putF_new (by simpa using h) fun z => hn (List.mem_cons_of_mem _ z)]
/-- self.f = e, self in slot i -/
theorem si_fld (i : Nat) (f : String) {o : Expr} {pos' : Pos} (O : POk X.K P) (ho : EI X W o (eVar i)) (ha : EI X W e fa) (hs : swapsWith e (some (.Attribute o (Str.ofString f) pos')) pos.line X.env = pure false := by rfl) :
    SI X W (.Assign [.Attribute o (Str.ofString f) pos'] e pos) (sFld P i f fa) := by
  refine psI (ps_fld ho ha hs) fun D σ H ⟨env, G, m, st, er, S, w⟩ => ?_
  refine ⟨env, G, m, st, er, S, (WS.st er w).imp fun d st1 G1 m1 H1 t1 S1 w1 v rv => ?_⟩
  refine ⟨env, G1, m1, st1, er.tr t1, S1, ?_⟩
  unfold eVar
  split at w1
  · rename_i n hi
    rw [hi]
    split at w1
    · rename_i C fs xs hn
      split at w1
      · rename_i hc
        refine fun G2 m2 H2 t2 S2 u ru => ?_
        cases ru with
        | ref hl =>
          obtain ⟨g2, dx, us, hu, hlen, rl⟩ := S2.at_ _ _ hn
          refine ⟨m2 n, _, dx, _, rfl, hu, (O.own C hc.2.2.2.1).1, O.fld _ hc.2.2.2.2, ?_, ?_⟩
          · unfold fsV
            rw [List.length_zip, List.length_map]
            omega
          · rw [putF_new hlen hc.2.2.1]
            have rv2 := rv.tr t2
            have S3 := S2.set (i := n) (o' := .ins C (fs ++ [f]) (xs ++ [d])) (u := .ins (gaC X.K C) dx (fsV (fs ++ [f]) (us ++ [v]))) hn rfl ⟨g2, dx, _, upd_same, by simp [hlen], rl.app (RpL.one (rv2.gnd d v hc.1))⟩
            exact w1 G2 m2 _ (t2.trans S2.trSet) S3 σ (((er.tr t1).tr t2).tr S2.trSet)
      · exact w1.elim
    · exact w1.elim
  · exact w1.elim

/-! ### for -/
/-- what an iterator yields -/
def ItD [Pin] (K : PySem.W.Frag) (m : Nat → Addr) (n : Nat) (G : Hp) (ds : List D) (J : It) : Prop := ∀ (i : Nat) (G1 : Hp) (m1 : Nat → Addr) (st1 : Sto) (H1 : Hp), Tr G m n G1 m1 st1.length → SR K G1 m1 st1 H1 →
  (∀ d, ds[i]? = some d → J.go i H1 ∧ ∀ x H', J.yld i H1 x H' → ∃ G2, Tr G1 m1 st1.length G2 m1 st1.length ∧ SR K G2 m1 st1 H' ∧ Rp K m1 st1.length G2 x d) ∧ (ds.length ≤ i → J.stop i H1)
def tI [Pin] (K : PySem.W.Frag) (W : WX) (f : Ax) : TI := fun σ H R => ∃ env G m st, ER K m st.length G σ env ∧ SR K G m st H ∧
  Wp K G m st.length (f env st) (fun ds st' G' m' H' => ∀ J, ItD K m' st'.length G' ds J → R J H') fun c dd H' => W c dd σ H'
abbrev II [Pin] (X : Cx) (W : WX) (tg e : Expr) (f : Ax) : Prop := PI X tg e (tI X.K W f)
theorem piI {X : Cx} {tg e : Expr} {t t' : TI} (h : PI X tg e t) (i : ∀ σ H R, t' σ H R → t σ H R) : PI X tg e t' := ⟨fun pins s σ H R I q => h.run pins s σ H R I (i σ H R q)⟩
theorem itd_list {K : PySem.W.Frag} {m : Nat → Addr} {n : Nat} {G : Hp} {a : Addr} {vs : List V} {ds : List D} (h : SqL K G a vs) (r : RpL K m n G vs ds) : ItD K m n G ds (Itl K a) := by
  intro i G1 m1 st1 H1 t S
  have hq : SqL K H1 a vs := same_l S.ex (same_l t.ex h)
  refine ⟨fun d e => ?_, fun hl => ⟨vs, hq, by rw [r.length]; exact hl⟩⟩
  obtain ⟨v, e1, r1⟩ := r.get e
  refine ⟨⟨vs, v, hq, e1⟩, fun x H' ⟨e2, h2⟩ => ?_⟩
  subst e2
  have := h2 vs hq
  rw [e1] at this
  cases this
  exact ⟨G1, Tr.refl, S, r1.tr t⟩
theorem itd_tup {K : PySem.W.Frag} {m : Nat → Addr} {n : Nat} {G : Hp} {a : Addr} {vs : List V} {ds : List D} (h : SqT K G a vs) (r : RpL K m n G vs ds) : ItD K m n G ds (Itt K a) := by
  intro i G1 m1 st1 H1 t S
  have hq : SqT K H1 a vs := same_t S.ex (same_t t.ex h)
  refine ⟨fun d e => ?_, fun hl => ⟨vs, hq, by rw [r.length]; exact hl⟩⟩
  obtain ⟨v, e1, r1⟩ := r.get e
  refine ⟨⟨vs, v, hq, e1⟩, fun x H' ⟨e2, h2⟩ => ?_⟩
  subst e2
  have := h2 vs hq
  rw [e1] at this
  cases this
  exact ⟨G1, Tr.refl, S, r1.tr t⟩
theorem itd_enum {K : PySem.W.Frag} {m : Nat → Addr} {n : Nat} {G : Hp} {a : Addr} {vs : List V} {ds : List D} (h : SqL K G a vs) (r : RpL K m n G vs ds) : ItD K m n G (enumD 0 ds) (Ite K a) := by
  have len : ∀ (ds : List D) (k : Nat), (enumD k ds).length = ds.length := fun ds => by
    induction ds with
    | nil => intro k; rfl
    | cons d ds ih => intro k; rw [enumD, List.length_cons, List.length_cons, ih]
  have at_ : ∀ (ds : List D) (k i : Nat), (enumD k ds)[i]? = (ds[i]?).map fun d => .tup [.int ((k + i : Nat) : Int), d] := fun ds => by
    induction ds with
    | nil => intro k i; simp [enumD]
    | cons d ds ih =>
      intro k i
      cases i with
      | zero => simp [enumD]
      | succ i =>
        rw [enumD, List.getElem?_cons_succ, List.getElem?_cons_succ, ih]
        rw [show k + 1 + i = k + (i + 1) by omega]
  intro i G1 m1 st1 H1 t S
  have hq : SqL K H1 a vs := same_l S.ex (same_l t.ex h)
  refine ⟨fun d e => ?_, fun hl => ⟨vs, hq, by rw [r.length, ← len ds 0]; exact hl⟩⟩
  rw [at_] at e
  cases hd : ds[i]? with
  | none => rw [hd] at e; cases e
  | some d0 =>
    rw [hd] at e
    cases e
    obtain ⟨v, e1, r1⟩ := r.get hd
    refine ⟨⟨vs, v, hq, e1⟩, fun x H' ⟨T, y, e2, hT, e3, h2⟩ => ?_⟩
    subst e2 e3
    have := h2 vs hq
    rw [e1] at this
    cases this
    refine ⟨_, S.trNew hT, S.new hT, .tup (SqT.of upd_same) (.cons ?_ (.cons ((r1.tr t).tr (S.trNew hT)) .nil))⟩
    rw [Nat.zero_add]
    exact .int _
theorem itd_enumT {K : PySem.W.Frag} {m : Nat → Addr} {n : Nat} {G : Hp} {a : Addr} {vs : List V} {ds : List D} (h : SqT K G a vs) (r : RpL K m n G vs ds) : ItD K m n G (enumD 0 ds) (Itet K a) := by
  have len : ∀ (ds : List D) (k : Nat), (enumD k ds).length = ds.length := fun ds => by
    induction ds with
    | nil => intro k; rfl
    | cons d ds ih => intro k; rw [enumD, List.length_cons, List.length_cons, ih]
  have at_ : ∀ (ds : List D) (k i : Nat), (enumD k ds)[i]? = (ds[i]?).map fun d => .tup [.int ((k + i : Nat) : Int), d] := fun ds => by
    induction ds with
    | nil => intro k i; simp [enumD]
    | cons d ds ih =>
      intro k i
      cases i with
      | zero => simp [enumD]
      | succ i =>
        rw [enumD, List.getElem?_cons_succ, List.getElem?_cons_succ, ih]
        rw [show k + 1 + i = k + (i + 1) by omega]
  intro i G1 m1 st1 H1 t S
  have hq : SqT K H1 a vs := same_t S.ex (same_t t.ex h)
  refine ⟨fun d e => ?_, fun hl => ⟨vs, hq, by rw [r.length, ← len ds 0]; exact hl⟩⟩
  rw [at_] at e
  cases hd : ds[i]? with
  | none => rw [hd] at e; cases e
  | some d0 =>
    rw [hd] at e
    cases e
    obtain ⟨v, e1, r1⟩ := r.get hd
    refine ⟨⟨vs, v, hq, e1⟩, fun x H' ⟨T, y, e2, hT, e3, h2⟩ => ?_⟩
    subst e2 e3
    have := h2 vs hq
    rw [e1] at this
    cases this
    refine ⟨_, S.trNew hT, S.new hT, .tup (SqT.of upd_same) (.cons ?_ (.cons ((r1.tr t).tr (S.trNew hT)) .nil))⟩
    rw [Nat.zero_add]
    exact .int _
theorem ii_list {tg : Expr} (ha : EI X W e fa) : II X W tg e (iLst fa) := by
  refine piI (pi_list ha) fun σ H R ⟨env, G, m, st, er, S, w⟩ => ?_
  refine ⟨env, G, m, st, er, S, w.bnd.imp fun x st1 G1 m1 H1 t1 S1 w1 v rv => ?_⟩
  split at w1
  · cases rv with
    | lst h1 h2 => exact ⟨_, rfl, ⟨_, SqL.of (S1.ex _ _ h1)⟩, w1.now S1 _ (itd_list (SqL.of h1) h2)⟩
  · cases rv with
    | scr h1 h2 => exact ⟨_, rfl, ⟨_, same_l S1.ex h1⟩, w1.now S1 _ (itd_list h1 h2)⟩
  · exact w1.elim
theorem ii_tup {tg : Expr} (ha : EI X W e fa) : II X W tg e (iTpl fa) := by
  refine piI (pi_tup ha) fun σ H R ⟨env, G, m, st, er, S, w⟩ => ?_
  refine ⟨env, G, m, st, er, S, w.bnd.imp fun x st1 G1 m1 H1 t1 S1 w1 v rv => ?_⟩
  split at w1
  · cases rv with
    | tup h1 h2 => exact ⟨_, rfl, ⟨_, same_t S1.ex h1⟩, w1.now S1 _ (itd_tup h1 h2)⟩
  · exact w1.elim
theorem ii_str {tg : Expr} (ha : EI X W e fa) : II X W tg e (iStr fa) := by
  refine piI (pi_str ha) fun σ H R ⟨env, G, m, st, er, S, w⟩ => ?_
  refine ⟨env, G, m, st, er, S, w.bnd.imp fun x st1 G1 m1 H1 t1 S1 w1 v rv => ?_⟩
  split at w1
  · rename_i z
    cases rv
    refine ⟨z, rfl, w1.now S1 _ fun i G2 m2 st2 H2 t2 S2 => ⟨fun d e => ?_, fun hl => ?_⟩⟩
    · rw [List.getElem?_map] at e
      cases hc : z.cps.toList[i]? with
      | none => rw [hc] at e; cases e
      | some c =>
        rw [hc] at e
        cases e
        have hlt := (List.getElem?_eq_some_iff.mp hc).1
        refine ⟨show i < z.cps.size by simpa using hlt, fun x H' ⟨e2, c', hc', e3⟩ => ?_⟩
        subst e2 e3
        have : c' = c := by
          have h1 : z.cps.toList[i]? = some c' := by rw [Array.getElem?_toList]; exact hc'
          rw [hc] at h1
          exact (some_inj h1).symm
        subst this
        exact ⟨G2, Tr.refl, S2, .str _⟩
    · have : z.cps.toList.length ≤ i := by simpa using hl
      show z.cps.size ≤ i
      simpa using this
  · exact w1.elim
theorem ii_any {tg : Expr} (ha : EI X W e fa) : II X W tg e (iAny fa) := by
  refine ⟨fun pins s σ H R I ⟨env, G, m, st, er, S, w⟩ => ?_⟩
  have key : iAny fa env st = iLst fa env st ∨ iAny fa env st = iTpl fa env st ∨ iAny fa env st = iStr fa env st ∨ iAny fa env st = .bad := by
    unfold iAny iLst iTpl iStr
    cases h : fa env st with
    | bad => exact .inl rfl
    | exc C fs xs st1 => exact .inl rfl
    | ok d st1 =>
      cases d with
      | lst xs => exact .inl rfl
      | scr xs => exact .inl rfl
      | tup xs => exact .inr (.inl rfl)
      | str xs => exact .inr (.inr (.inl rfl))
      | _ => exact .inr (.inr (.inr rfl))
  rcases key with h | h | h | h
  · exact (ii_list ha).run pins s σ H R I ⟨env, G, m, st, er, S, by rw [← h]; exact w⟩
  · exact (ii_tup ha).run pins s σ H R I ⟨env, G, m, st, er, S, by rw [← h]; exact w⟩
  · exact (ii_str ha).run pins s σ H R I ⟨env, G, m, st, er, S, by rw [← h]; exact w⟩
  · rw [h] at w
    exact w.elim
theorem ii_enumL {tpos : Pos} {elts : List Expr} {kk : Nat} (hg : Gl X "enumerate") (hm : X.mg "enumerate" = none) (ha : EI X W e fa) (hs : starEach [e] X.env = [(false, eval e X.env)] := by rfl) (hs1 : starEach [e] X.env = (false, eval e X.env) :: starEach [] X.env := by rfl) :
    II X W (.Tuple elts kk tpos) (.Call (.Name "enumerate" p) [e] [] pos) (iEnumL fa) := by
  refine piI (pi_enum hg hm (ai_cons ha ai_nil hs1) hs) fun σ H R ⟨env, G, m, st, er, S, w⟩ => ?_
  refine ⟨env, G, m, st, er, S, ?_⟩
  have key := w.bnd
  unfold aCons
  cases hf : fa env st with
  | bad => rw [hf] at key; exact key
  | exc C fs xs st1 => rw [hf] at key; exact key
  | ok d st1 =>
    rw [hf] at key
    intro G1 m1 H1 t1 S1 vs rvs
    have w1 := key G1 m1 H1 t1 S1
    obtain ⟨v, rfl, rv⟩ := rp1 rvs
    dsimp only at w1
    split at w1
    · cases rv with
      | lst h1 h2 => exact ⟨_, _, rfl, SqL.of (S1.ex _ _ h1), w1.now S1 _ (itd_enum (SqL.of h1) h2)⟩
    · exact w1.elim
theorem ii_enumU {tpos : Pos} {elts : List Expr} {kk : Nat} (hg : Gl X "enumerate") (hm : X.mg "enumerate" = none) (ha : EI X W e fa) (hs : starEach [e] X.env = [(false, eval e X.env)] := by rfl) (hs1 : starEach [e] X.env = (false, eval e X.env) :: starEach [] X.env := by rfl) :
    II X W (.Tuple elts kk tpos) (.Call (.Name "enumerate" p) [e] [] pos) (iEnumU fa) := by
  refine piI (pi_enumT hg hm (ai_cons ha ai_nil hs1) hs) fun σ H R ⟨env, G, m, st, er, S, w⟩ => ?_
  refine ⟨env, G, m, st, er, S, ?_⟩
  have key := w.bnd
  unfold aCons
  cases hf : fa env st with
  | bad => rw [hf] at key; exact key
  | exc C fs xs st1 => rw [hf] at key; exact key
  | ok d st1 =>
    rw [hf] at key
    intro G1 m1 H1 t1 S1 vs rvs
    have w1 := key G1 m1 H1 t1 S1
    obtain ⟨v, rfl, rv⟩ := rp1 rvs
    dsimp only at w1
    split at w1
    · cases rv with
      | tup h1 h2 => exact ⟨_, _, rfl, same_t S1.ex h1, w1.now S1 _ (itd_enumT h1 h2)⟩
    · exact w1.elim
theorem ii_enum {tpos : Pos} {elts : List Expr} {kk : Nat} (hg : Gl X "enumerate") (hm : X.mg "enumerate" = none) (ha : EI X W e fa) (hs : starEach [e] X.env = [(false, eval e X.env)] := by rfl) (hs1 : starEach [e] X.env = (false, eval e X.env) :: starEach [] X.env := by rfl) :
    II X W (.Tuple elts kk tpos) (.Call (.Name "enumerate" p) [e] [] pos) (iEnum fa) := by
  refine ⟨fun pins s σ H R I ⟨env, G, m, st, er, S, w⟩ => ?_⟩
  have key : iEnum fa env st = iEnumL fa env st ∨ iEnum fa env st = iEnumU fa env st ∨ iEnum fa env st = .bad := by
    unfold iEnum iEnumL iEnumU
    cases h : fa env st with
    | bad => exact .inl rfl
    | exc C fs xs st1 => exact .inl rfl
    | ok d st1 =>
      cases d with
      | lst xs => exact .inl rfl
      | tup xs => exact .inr (.inl rfl)
      | _ => exact .inr (.inr rfl)
  rcases key with h | h | h
  · exact (ii_enumL hg hm ha hs hs1).run pins s σ H R I ⟨env, G, m, st, er, S, by rw [← h]; exact w⟩
  · exact (ii_enumU hg hm ha hs hs1).run pins s σ H R I ⟨env, G, m, st, er, S, by rw [← h]; exact w⟩
  · rw [h] at w
    exact w.elim
theorem itd_rg {K : PySem.W.Frag} {m : Nat → Addr} {n k : Nat} {G : Hp} {lo : Int} {ds : List D} (hl : ds.length = k) (hd : ∀ i, i < k → ds[i]? = some (.int (lo + (i : Nat)))) : ItD K m n G ds (Itr lo k) := by
  intro i G1 m1 st1 H1 t S
  refine ⟨fun d e => ?_, fun h => by show k ≤ i; omega⟩
  have hi : i < k := by
    have := (List.getElem?_eq_some_iff.mp e).1
    omega
  rw [hd i hi] at e
  cases e
  refine ⟨hi, fun x H' ⟨e2, e3⟩ => ?_⟩
  subst e2 e3
  exact ⟨G1, Tr.refl, S, .int _⟩
theorem rgD_len (a b : Int) : (rgD a b).length = (b - a).toNat := by simp [rgD]
theorem rgD_at (a b : Int) (i : Nat) (h : i < (b - a).toNat) : (rgD a b)[i]? = some (.int (a + (i : Nat))) := by simp [rgD, h]
theorem ii_rng1 {tg : Expr} {fas : Ax} (hg : Gl X "range") (hm : X.mg "range" = none) (ha : AI X W [e] fas) (hs : starEach [e] X.env = [(false, eval e X.env)] := by rfl) : II X W tg (.Call (.Name "range" p) [e] [] pos) (iRng1 fas) := by
  refine piI (pi_range1 hg hm ha hs) fun σ H R ⟨env, G, m, st, er, S, w⟩ => ?_
  refine ⟨env, G, m, st, er, S, w.bnd.imp fun x st1 G1 m1 H1 t1 S1 w1 v rv => ?_⟩
  split at w1
  · rename_i j
    split at w1
    · rename_i hj
      obtain ⟨u, rfl, ru⟩ := rp1 rv
      cases ru
      refine ⟨j, rfl, by omega, by omega, w1.now S1 _ (itd_rg ?_ fun i h => rgD_at 0 j i ?_)⟩
      · rw [rgD_len, Int.sub_zero]
      · rw [Int.sub_zero]; exact h
    · exact w1.elim
  · exact w1.elim
theorem ii_rng2 {tg : Expr} {fas : Ax} (hg : Gl X "range") (hm : X.mg "range" = none) (ha : AI X W [a, b] fas) (hs : starEach [a, b] X.env = [(false, eval a X.env), (false, eval b X.env)] := by rfl) (hs2 : starEach [b] X.env = [(false, eval b X.env)] := by rfl) :
    II X W tg (.Call (.Name "range" p) [a, b] [] pos) (iRng2 fas) := by
  refine piI (pi_range2 hg hm ha hs hs2) fun σ H R ⟨env, G, m, st, er, S, w⟩ => ?_
  refine ⟨env, G, m, st, er, S, w.bnd.imp fun x st1 G1 m1 H1 t1 S1 w1 v rv => ?_⟩
  split at w1
  · rename_i i j
    split at w1
    · rename_i hj
      obtain ⟨u, u', rfl, ru, ru'⟩ := rp2 rv
      cases ru
      cases ru'
      exact ⟨i, j, rfl, ⟨by omega, by omega, by omega, by omega⟩, w1.now S1 _ (itd_rg (rgD_len i j) fun k h => rgD_at i j k h)⟩
    · exact w1.elim
  · exact w1.elim
theorem rg3_size {i j k : Int} (hk : 0 < k) : Builtin.Range.rangeSize i j k = ((rg3N i j k : Nat) : Int) := by
  unfold Builtin.Range.rangeSize rg3N
  rw [if_pos hk]
  split
  · have h1 := Int.ediv_nonneg (a := j - i - 1) (b := k) (by omega) (by omega)
    omega
  · rfl
theorem rg3_small {i j k : Int} (hk : 0 < k) (hk2 : k ≤ 1000) (hi : -1000000 ≤ i ∧ i ≤ 1000000) (hj : -1000000 ≤ j ∧ j ≤ 1000000) : Builtin.Range.small i j k = true := by
  have h0 : Builtin.Range.rangeSize i j k ≤ 2000000 ∧ 0 ≤ Builtin.Range.rangeSize i j k := by
    unfold Builtin.Range.rangeSize
    rw [if_pos hk]
    split
    · have h1 := Int.ediv_nonneg (a := j - i - 1) (b := k) (by omega) (by omega)
      have h2 := Int.ediv_le_self k (show (0 : Int) ≤ j - i - 1 by omega)
      omega
    · omega
  unfold Builtin.Range.small
  generalize Builtin.Range.rangeSize i j k = n at h0 ⊢
  simp only [Builtin.Range.rangeFitsLong, Bool.and_eq_true, Bool.or_eq_true, decide_eq_true_eq, beq_iff_eq]
  refine ⟨⟨⟨⟨?_, ?_⟩, ?_⟩, ?_⟩, .inr ?_⟩
  · omega
  · omega
  · omega
  · omega
  · rw [if_pos hk]
    simp only [Bool.and_eq_true, decide_eq_true_eq]
    omega
theorem ii_rng3 {tg : Expr} {fas : Ax} (hg : Gl X "range") (hm : X.mg "range" = none) (ha : AI X W [a, b, c] fas) (hs : starEach [a, b, c] X.env = (false, eval a X.env) :: starEach [b, c] X.env := by rfl) (hpl : (backTo pos (starEach [b, c] X.env)).any (·.1) = false := by rfl) :
    II X W tg (.Call (.Name "range" p) [a, b, c] [] pos) (iRng3 fas) := by
  refine piI (pi_range3 hg hm ha hs hpl) fun σ H R ⟨env, G, m, st, er, S, w⟩ => ?_
  refine ⟨env, G, m, st, er, S, w.bnd.imp fun x st1 G1 m1 H1 t1 S1 w1 v rv => ?_⟩
  split at w1
  · rename_i i j k
    split at w1
    · rename_i hj
      obtain ⟨h1, h2, h3, h4, h5, h6⟩ := hj
      cases rv with
      | cons r1 rv =>
        obtain ⟨u, u', rfl, ru, ru'⟩ := rp2 rv
        cases r1
        cases ru
        cases ru'
        refine ⟨i, j, k, rg3N i j k, rfl, ⟨by omega, by omega, rg3_small h1 h2 ⟨h3, h4⟩ ⟨h5, h6⟩, rg3_size h1⟩, w1.now S1 _ ?_⟩
        intro t G2 m2 st2 H2 t2 S2
        refine ⟨fun d e => ?_, fun h => show rg3N i j k ≤ t by simpa [rg3D] using h⟩
        have ht := (List.getElem?_eq_some_iff.mp e).1
        have ht' : t < rg3N i j k := by simpa [rg3D] using ht
        refine ⟨ht', fun x H' ⟨e2, e3⟩ => ?_⟩
        subst e2 e3
        have : (rg3D i j k)[t]? = some (.int (i + (t : Nat) * k)) := by simp [rg3D, ht']
        rw [this] at e
        cases e
        exact ⟨G2, Tr.refl, S2, .int _⟩
    · exact w1.elim
  · exact w1.elim
end
end Cb

set_option Elab.async false
set_option linter.all false
set_option maxRecDepth 100000
set_option maxHeartbeats 4000000
/-! CbLoop: for, while, comprehensions. -/
namespace Cb
open PySem PySem.Spec PyProof.Rows L2
variable {pin : Pin}

theorem drop_cons {α : Type} {ds : List α} {i : Nat} {d : α} (h : ds[i]? = some d) : ds.drop i = d :: ds.drop (i + 1) := by
  obtain ⟨h1, h2⟩ := List.getElem?_eq_some_iff.mp h
  rw [List.drop_eq_getElem_cons h1, h2]
section
variable {X : Cx} {W : WX} {a b c e : Expr} {es : List Expr} {fa fb fc : Ex} {pos p : Pos} {P : Pg} {s : Stmt} {ss ss' : List Stmt} {f : Sx}
theorem si_for {tg iter : Expr} {vs : List Nat} {src : Ax} {g : Gx} (hp : PassesOwn (model X.prog X.w) X.A X.env X.xe) (hc : X.calm = true) (hi : II X W tg iter src) (hg : GI X vs tg g) (hb : BI X W ss f)
    (hs : ∀ x, foldedSetIterable iter X.env x = pure x := by intro _; rfl) : SI X W (.For tg iter ss [] pos) (sFor src g f) := by
  refine psI (ps_for hp hc hi hg hb hs) fun D σ H ⟨env, G, m, st, er, S, w⟩ => ?_
  refine ⟨env, G, m, st, er, S, (WS.st er w).imp fun ds st1 G1 m1 H1 t1 S1 w1 J hJ => ?_⟩
  refine ⟨fun i k σ H => i + k = ds.length ∧ ∃ env G m st, Tr G1 m1 st1.length G m st.length ∧ ER X.K m st.length G σ env ∧ SR X.K G m st H ∧ WS X.K G m st.length (forL g f (ds.drop i) env st) (flP X.K D) W,
    ⟨ds.length, by omega, env, G1, m1, st1, Tr.refl, er.tr t1, S1, w1⟩, fun i k σ2 H2 ⟨hk, env2, G2, m2, st2, t2, er2, S2, w2⟩ => ?_⟩
  cases k with
  | zero =>
    left
    rw [List.drop_eq_nil_of_le (by omega)] at w2
    exact ⟨(hJ i _ _ _ _ t2 S2).2 (by omega), (show WS X.K G2 m2 st2.length (.ok (.nx env2) st2) _ _ from w2).now S2 σ2 er2⟩
  | succ k =>
    right
    have hlt : i < ds.length := by omega
    have hd : ds[i]? = some ds[i] := List.getElem?_eq_getElem hlt
    obtain ⟨hgo, hy⟩ := (hJ i _ _ _ _ t2 S2).1 _ hd
    rw [drop_cons hd, forL] at w2
    refine ⟨hgo, fun σ' H' => i + 1 + k = ds.length ∧ ∃ env G m st, Tr G1 m1 st1.length G m st.length ∧ ER X.K m st.length G σ' env ∧ SR X.K G m st H' ∧ WS X.K G m st.length (forL g f (ds.drop (i + 1)) env st) (flP X.K D) W, fun σ' H' h => ⟨k, by omega, h⟩, fun x H3 hx => ?_⟩
    obtain ⟨G3, t3, S3, r3⟩ := hy x H3 hx
    cases hgd : g ds[i] env2 with
    | none =>
      rw [hgd] at w2
      exact w2.elim
    | some env3 =>
      rw [hgd] at w2
      refine ⟨env2, G3, m2, st2, ds[i], env3, er2.tr t3, S3, r3, hgd, fun σ3 er3 _ => ⟨env3, G3, m2, st2, er3, S3, ?_⟩⟩
      have w3 := WS.from t3 w2
      dsimp only at w3
      have t13 := t2.trans t3
      cases hf : f env3 st2 with
      | bad =>
        rw [hf] at w3
        exact w3
      | exc C fs xs env4 st4 =>
        rw [hf] at w3
        exact w3
      | ok fl st4 =>
        rw [hf] at w3
        cases fl with
        | nx env4 => exact fun G4 m4 H4 t4 S4 σ4 er4 => ⟨by omega, env4, G4, m4, st4, t13.trans t4, er4, S4, WS.from t4 w3⟩
        | ct env4 => exact fun G4 m4 H4 t4 S4 σ4 er4 => ⟨by omega, env4, G4, m4, st4, t13.trans t4, er4, S4, WS.from t4 w3⟩
        | bk env4 => exact w3
        | rt d => exact w3
theorem si_while {t : Tx} (N : Nat) (hp : PassesOwn (model X.prog X.w) X.A X.env X.xe) (hc : TI' X W c t) (hb : BI X W ss f) : SI X W (.While c ss [] pos) (sWhile N t f) := by
  refine psI (ps_while hp hc hb) fun D σ H ⟨env, G, m, st, er, S, w⟩ => ?_
  refine ⟨fun k σ H => ∃ env G m st, ER X.K m st.length G σ env ∧ SR X.K G m st H ∧ WS X.K G m st.length (whileN t f k env st) (flP X.K D) W, ⟨N, env, G, m, st, er, S, w⟩, fun k σ2 H2 ⟨env2, G2, m2, st2, er2, S2, w2⟩ => ?_⟩
  cases k with
  | zero => exact (show False from w2).elim
  | succ k =>
    refine ⟨env2, G2, m2, st2, er2, S2, (WS.st er2 w2).imp fun x st3 G3 m3 H3 t3 S3 w3 => ?_⟩
    cases x with
    | false =>
      rw [if_neg Bool.false_ne_true] at w3 ⊢
      exact w3.now S3 σ2 (er2.tr t3)
    | true =>
      rw [if_pos rfl] at w3 ⊢
      refine ⟨fun σ' H' => ∃ env G m st, ER X.K m st.length G σ' env ∧ SR X.K G m st H' ∧ WS X.K G m st.length (whileN t f k env st) (flP X.K D) W, fun σ' H' h => ⟨k, by omega, h⟩, env2, G3, m3, st3, er2.tr t3, S3, ?_⟩
      cases hf : f env2 st3 with
      | bad =>
        rw [hf] at w3
        exact w3
      | exc C fs xs env4 st4 =>
        rw [hf] at w3
        exact w3
      | ok fl st4 =>
        rw [hf] at w3
        cases fl with
        | nx env4 => exact fun G4 m4 H4 t4 S4 σ4 er4 => ⟨env4, G4, m4, st4, er4, S4, WS.from t4 w3⟩
        | ct env4 => exact fun G4 m4 H4 t4 S4 σ4 er4 => ⟨env4, G4, m4, st4, er4, S4, WS.from t4 w3⟩
        | bk env4 => exact w3
        | rt d => exact w3

/-! ### comprehensions -/
theorem wipe_in {σ : St} {vs : List Nat} : ∀ us : List Nat, (∀ u ∈ us, u ∈ vs) → wipe (wipe σ us) vs = wipe σ vs
  | [], _ => rfl
  | u :: us, h => by
    show wipe ((wipe σ us).set u none) vs = wipe σ vs
    rw [wipe_set (h u List.mem_cons_self), wipe_in us fun x hx => h x (List.mem_cons_of_mem _ hx)]
theorem er_wipe {K : PySem.W.Frag} {m : Nat → Addr} {n : Nat} {G : Hp} {σ : St} {env : Env} (h : ER K m n G σ env) : ∀ vs : List Nat, ER K m n G (wipe σ vs) (wipeE env vs)
  | [] => h
  | v :: vs => (er_wipe h vs).setN v
def W0 : WX := fun _ _ _ _ => False
theorem takes_W0 {X : Cx} : Takes X W0 := fun _ _ ⟨_, _, _, _, _, _, _, _, _, _, _, _, _, _, _, _, w⟩ => w.elim
abbrev TsI [Pin] (X : Cx) (ifs : List Expr) (f : Tx) : Prop := PTs X ifs (tT X.K W0 f)
theorem tsi_nil : TsI X [] tYes := ⟨fun pins s σ H Q I ⟨env, G, m, st, er, S, w⟩ => pts_nil.run pins s σ H Q I ((show Wp X.K G m st.length (.ok true st) _ _ from w).now S)⟩
theorem tsi_one {t : Tx} (h : TI' X W0 c t) : TsI X [c] t := pts_one h
theorem lc_key {vs : List Nat} {K : PySem.W.Frag} {src : Ax} {g : Gx} {t : Tx} {fa : Ex} {σ : St} {H : Hp} {Q : VK} (h : tE K W (eLc src g vs t fa) σ H Q) : tLc (tI K W src) (tG K vs g) (tT K W0 t) (tE K W0 fa) vs σ H Q := by
  obtain ⟨env, G, m, st, er, S, w⟩ := h
  refine ⟨env, G, m, st, er, S, w.bnd.imp fun ds st1 G1 m1 H1 t1 S1 w1 J hJ => fun Da hDa => ?_⟩
  generalize hr : lcL g t fa st1.length ds (wipeE env vs) (st1 ++ [.lst []]) = r at w1
  have S2 := S1.push (u := .lst []) (o := .lst []) hDa rfl ⟨S1.free hDa, [], upd_same, rpl_nil⟩
  have t12 : Tr G1 m1 st1.length G1 (fun i => if i = st1.length then Da else m1 i) (st1 ++ [SO.lst []]).length := S1.trPush
  generalize hm2 : (fun i => if i = st1.length then Da else m1 i) = m2 at S2 t12
  have hD : m2 st1.length = Da := by rw [← hm2]; simp
  have hn2 : st1.length < (st1 ++ [SO.lst []]).length := by simp
  have er2 : ER K m2 (st1 ++ [SO.lst []]).length G1 (wipe σ vs) (wipeE env vs) := er_wipe ((er.tr t1).tr t12) vs
  refine ⟨fun i k H => i + k = ds.length ∧ ∃ G m st, Tr G1 m2 (st1 ++ [SO.lst []]).length G m st.length ∧ SR K G m st H ∧ lcL g t fa st1.length (ds.drop i) (wipeE env vs) st = r, ⟨ds.length, by omega, G1, m2, _, Tr.refl, S2, hr⟩,
    fun i k H3 ⟨hk, G3, m3, st3, t3, S3, e3⟩ => ?_⟩
  have hD3 : m3 st1.length = Da := by rw [t3.mm _ hn2, hD]
  have hlen : st1.length < st3.length := Nat.lt_of_lt_of_le hn2 t3.le
  have t13 : Tr G1 m1 st1.length G3 m3 st3.length := t12.trans t3
  cases k with
  | zero =>
    left
    rw [List.drop_eq_nil_of_le (by omega), lcL] at e3
    refine ⟨(hJ i _ _ _ _ t13 S3).2 (by omega), ?_⟩
    split at e3
    · rename_i acc ha
      subst e3
      obtain ⟨G4, t4, S4, r4⟩ := S3.frz ha
      have w2 := w1
      dsimp only [Cb.R.bnd] at w2
      have hl : (st3.take st1.length).length = st1.length := by rw [List.length_take]; omega
      have S5 := S4.take st1.length
      rw [List.take_set_of_le (by omega)] at S5
      refine w2 G4 m3 H3 ⟨t13.ex.trans t4.ex, t13.mm, by rw [hl]; exact Nat.le_refl _⟩ S5 _ ?_
      rw [← hD3]
      exact r4 _
    · subst e3
      exact (show False from w1).elim
  | succ k =>
    right
    have hlt : i < ds.length := by omega
    have hd : ds[i]? = some ds[i] := List.getElem?_eq_getElem hlt
    obtain ⟨hgo, hy⟩ := (hJ i _ _ _ _ t13 S3).1 _ hd
    rw [drop_cons hd, lcL] at e3
    refine ⟨hgo, fun H' => i + 1 + k = ds.length ∧ ∃ G m st, Tr G1 m2 (st1 ++ [SO.lst []]).length G m st.length ∧ SR K G m st H' ∧ lcL g t fa st1.length (ds.drop (i + 1)) (wipeE env vs) st = r, fun H' h => ⟨k, by omega, h⟩, fun x H4 hx => ?_⟩
    obtain ⟨G4, t4, S4, r4⟩ := hy x H4 hx
    have bad : r ≠ .bad := fun z => by
      rw [z] at w1
      exact w1
    cases hgd : g ds[i] (wipeE env vs) with
    | none =>
      rw [hgd] at e3
      exact absurd e3.symm bad
    | some env4 =>
      rw [hgd] at e3
      refine ⟨_, G4, m3, st3, ds[i], env4, (er2.tr t3).tr t4, S4, r4, hgd, fun σ4 er4 hw => ⟨?_, env4, G4, m3, st3, er4, S4, ?_⟩⟩
      · rw [hw]
        exact wipe_in vs fun u h => h
      · dsimp only at e3
        cases hte : t env4 st3 with
        | bad =>
          rw [hte] at e3
          exact absurd e3.symm bad
        | exc C fs xs st5 =>
          rw [hte] at e3
          exact absurd e3.symm bad
        | ok q st5 =>
          rw [hte] at e3
          intro G5 m5 H5 t5 S5
          have t15 : Tr G1 m2 (st1 ++ [SO.lst []]).length G5 m5 st5.length := (t3.trans t4).trans t5
          dsimp only
          cases q with
          | false =>
            rw [if_neg Bool.false_ne_true]
            exact ⟨by omega, G5, m5, st5, t15, S5, e3⟩
          | true =>
            rw [if_pos rfl]
            refine ⟨env4, G5, m5, st5, er4.tr t5, S5, ?_⟩
            dsimp only at e3
            cases hfe : fa env4 st5 with
            | bad =>
              rw [hfe] at e3
              exact absurd e3.symm bad
            | exc C fs xs st6 =>
              rw [hfe] at e3
              exact absurd e3.symm bad
            | ok d st6 =>
              rw [hfe] at e3
              intro G6 m6 H6 t6 S6 v rv
              dsimp only at e3
              split at e3
              · rename_i acc ha
                split at e3
                · rename_i hcd
                  obtain ⟨g6, us, hu, rl⟩ := S6.at_ _ _ ha
                  have t16 := t15.trans t6
                  have hD6 : m6 st1.length = Da := by rw [t16.mm _ hn2, hD]
                  rw [hD6] at hu g6
                  refine ⟨us, hu, by rw [rl.length]; exact Nat.lt_of_lt_of_le hcd.2 big, by omega, G6, m6, _, t16.trans S6.trSet, ?_, e3⟩
                  have S7 := S6.set (i := st1.length) (o' := .lst (acc ++ [d])) (u := .lst (us ++ [v])) ha rfl ⟨by rw [hD6]; exact g6, _, upd_same, rl.app (RpL.one (rv.gnd d v hcd.1))⟩
                  rw [hD6] at S7
                  exact S7
                · exact absurd e3.symm bad
              · exact absurd e3.symm bad
theorem ei_lc {tg iter : Expr} {ifs : List Expr} {scope : Scope} {own : List (Str × Nat)} {src : Ax} {g : Gx} {t : Tx} (hc : X.calm = true) (hN : X.N.Nodup) (hi : II X W tg iter src) (ok : BlkOk X.N X.env.scope scope own)
    (hg : ∀ (s : Shared) (H : Hp) (C : Addr) (cl : List (Str × Addr)) (fp : List Addr), GI (X.blk s H scope (compEnvC scope cl C X.env) fp) (own.map (·.2)) tg g)
    (ht : ∀ (s : Shared) (H : Hp) (C : Addr) (cl : List (Str × Addr)) (fp : List Addr), TsI (X.blk s H scope (compEnvC scope cl C X.env) fp) ifs t)
    (he : ∀ (s : Shared) (H : Hp) (C : Addr) (cl : List (Str × Addr)) (fp : List Addr), EI (X.blk s H scope (compEnvC scope cl C X.env) fp) W0 e fa) (hs : ∀ x, foldedSetIterable iter X.env x = pure x := by intro _; rfl) :
    EI X W (.ListComp e [⟨tg, iter, ifs, 0⟩] scope pos) (eLc src g (own.map (·.2)) t fa) := by
  exact peI (pe_lc (g := tG X.K (own.map (·.2)) g) (tt := tT X.K W0 t) (te := tE X.K W0 fa) hc hN hi ok hg ht he hs) fun _ _ _ h => lc_key h
/-- name = [..] -/
theorem si_setLc (i : Nat) {y : Str} {py : Pos} {spos : Pos} {tg iter : Expr} {ifs : List Expr} {scope : Scope} {own : List (Str × Nat)} {src : Ax} {g : Gx} {t : Tx} (hc : X.calm = true) (hN : X.N.Nodup) (hi : II X W tg iter src) (ok : BlkOk X.N X.env.scope scope own)
    (hg : ∀ (s : Shared) (H : Hp) (C : Addr) (cl : List (Str × Addr)) (fp : List Addr), GI (X.blk s H scope (compEnvC scope cl C X.env) fp) (own.map (·.2)) tg g)
    (ht : ∀ (s : Shared) (H : Hp) (C : Addr) (cl : List (Str × Addr)) (fp : List Addr), TsI (X.blk s H scope (compEnvC scope cl C X.env) fp) ifs t)
    (he : ∀ (s : Shared) (H : Hp) (C : Addr) (cl : List (Str × Addr)) (fp : List Addr), EI (X.blk s H scope (compEnvC scope cl C X.env) fp) W0 e fa)
    (hsw : swapsWith (.ListComp e [⟨tg, iter, ifs, 0⟩] scope pos) (some (.Name y py)) spos.line X.env = pure true) (hy : X.N[i]? = some y := by rfl) (hyl : X.env.scope.names.lookup y = some .local := by rfl) (hs : ∀ x, foldedSetIterable iter X.env x = pure x := by intro _; rfl) :
    SI X W (.Assign [.Name y py] (.ListComp e [⟨tg, iter, ifs, 0⟩] scope pos) spos) (sAsg (eLc src g (own.map (·.2)) t fa) (gName i)) := by
  refine psI (ps_setLc (g := tG X.K (own.map (·.2)) g) (tt := tT X.K W0 t) (te := tE X.K W0 fa) hc hN hy hyl hsw hi ok hg ht he hs) fun D σ H ⟨env, G, m, st, er, S, w⟩ => ?_
  refine lc_key ⟨env, G, m, st, er, S, (WS.st er w).imp fun x st1 G1 m1 H1 t1 S1 w1 v rv => ?_⟩
  exact (show WS X.K G1 m1 st1.length (.ok (.nx (env.set i (some x))) st1) _ _ from w1).now S1 _ ((er.tr t1).set i rv)
end
end Cb

set_option Elab.async false
set_option linter.all false
set_option maxRecDepth 100000
set_option maxHeartbeats 4000000
/-! CbFn: functions. -/
namespace Cb
open PySem PySem.Spec PyProof.Rows L2
variable {pin : Pin}

/-- a function's promise -/
def spI [Pin] (K : PySem.W.Frag) (F : Fn) (n : Nat) : Sp := fun vs H Q E => ∃ G m st ds, SR K G m st H ∧ RpL K m st.length G vs ds ∧ ds.length = n ∧ Wp K G m st.length (F ds st) (fun d st' G' m' H' => ∀ v, Rp K m' st'.length G' v d → Q v H') E
theorem spI.len {K : PySem.W.Frag} {F : Fn} {n : Nat} : ∀ vs H Q E, spI K F n vs H Q E → vs.length = n := fun vs H Q E ⟨G, m, st, ds, S, r, e, _⟩ => r.length.trans e
/-- how a function hands its value back -/
def FinOk [Pin] (fin : Nat → D → Sto → R D) : Prop := ∀ {K : PySem.W.Frag} {G : Hp} {m : Nat → Addr} {st1 : Sto} {H : Hp} {v : V} {d : D} {base : Nat} {P : D → Sto → Hp → (Nat → Addr) → Hp → Prop} {E : XK}, SR K G m st1 H → Rp K m st1.length G v d → base ≤ st1.length →
  Wp K G m base (fin base d st1) P E → ∃ d' st' G' m', P d' st' G' m' H ∧ Rp K m' st'.length G' v d'
theorem take_len {st : Sto} {n : Nat} (h : n ≤ st.length) : (st.take n).length = n := by
  rw [List.length_take]
  omega
theorem gnd_any {K : PySem.W.Frag} {m m' : Nat → Addr} {n n' : Nat} {G : Hp} {v : V} {d : D} (h : d.gnd = true) (r : Rp K m n G v d) : Rp K m' n' G v d := (Rp.gnd (m' := fun _ => 0) d v h r).up (Same.refl _)
theorem finR_ok : FinOk finR := by
  intro K G m st1 H v d base P E S r hb w
  have hl := take_len hb
  have other : (∀ k, d ≠ .ref k) → ∃ d' st' G' m', P d' st' G' m' H ∧ Rp K m' st'.length G' v d' := by
    intro hd
    have e : finR base d st1 = if d.gnd then .ok d (st1.take base) else .bad := by
      cases d <;> first | rfl | exact absurd rfl (hd _)
    rw [e] at w
    by_cases hg : d.gnd = true
    · rw [if_pos hg] at w
      exact ⟨d, st1.take base, G, m, w G m H ⟨Same.refl _, fun _ _ => rfl, by rw [hl]; exact Nat.le_refl _⟩ (S.take base), gnd_any hg r⟩
    · rw [if_neg hg] at w
      exact w.elim
  cases d with
  | ref k =>
    cases r with
    | ref hk =>
      unfold finR at w
      dsimp only at w
      split at w
      · rename_i hlt
        exact ⟨.ref k, st1.take base, G, m, w G m H ⟨Same.refl _, fun _ _ => rfl, by rw [hl]; exact Nat.le_refl _⟩ (S.take base), .ref (by rw [hl]; exact hlt)⟩
      · rename_i hlt
        split at w
        · rename_i xs hx
          obtain ⟨G', t, S', r'⟩ := S.frz hx
          have S2 := S'.take base
          rw [List.take_set_of_le (by omega)] at S2
          exact ⟨.lst xs, st1.take base, G', m, w G' m H ⟨t.ex, fun _ _ => rfl, by rw [hl]; exact Nat.le_refl _⟩ S2, r' _⟩
        · exact w.elim
  | _ => exact other fun k z => by cases z
theorem finL_ok : FinOk finL := by
  intro K G m st1 H v d base P E S r hb w
  have hl := take_len hb
  have other : (∀ k, d ≠ .ref k) → ∃ d' st' G' m', P d' st' G' m' H ∧ Rp K m' st'.length G' v d' := by
    intro hd
    have e : finL base d st1 = if d.gnd then .ok d (st1.take base) else .bad := by
      cases d <;> first | rfl | exact absurd rfl (hd _)
    rw [e] at w
    by_cases hg : d.gnd = true
    · rw [if_pos hg] at w
      exact ⟨d, st1.take base, G, m, w G m H ⟨Same.refl _, fun _ _ => rfl, by rw [hl]; exact Nat.le_refl _⟩ (S.take base), gnd_any hg r⟩
    · rw [if_neg hg] at w
      exact w.elim
  cases d with
  | ref k =>
    cases r with
    | ref hk =>
      unfold finL at w
      dsimp only at w
      split at w
      · rename_i hlt
        exact ⟨.ref k, st1.take base, G, m, w G m H ⟨Same.refl _, fun _ _ => rfl, by rw [hl]; exact Nat.le_refl _⟩ (S.take base), .ref (by rw [hl]; exact hlt)⟩
      · rename_i hlt
        split at w
        · rename_i xs hx
          have at1 : ∀ n x, (st1.take base ++ [SO.lst xs])[n]? = some x → (n < base ∧ st1[n]? = some x) ∨ (n = base ∧ x = .lst xs) := fun n x e => by
            by_cases hn : n < base
            · rw [List.getElem?_append_left (by omega), List.getElem?_take, if_pos hn] at e
              exact .inl ⟨hn, e⟩
            · rw [List.getElem?_append_right (by omega), hl] at e
              by_cases z : n - base = 0
              · rw [z] at e
                exact .inr ⟨by omega, by simpa using e.symm⟩
              · rw [List.getElem?_eq_none (by simp; omega)] at e
                cases e
          have S2 : SR K G (fun i => if i = base then m k else m i) (st1.take base ++ [.lst xs]) H := by
            refine ⟨S.ex, fun n x e => ?_, fun i j x y e1 e2 l1 l2 eq => ?_⟩
            · rcases at1 n x e with ⟨hn, e⟩ | ⟨rfl, rfl⟩
              · simp only [if_neg (Nat.ne_of_lt hn)]
                exact S.at_ n x e
              · simp only [if_true]
                exact S.at_ k _ hx
            · rcases at1 i x e1 with ⟨hi, f1⟩ | ⟨rfl, rfl⟩ <;> rcases at1 j y e2 with ⟨hj, f2⟩ | ⟨rfl, rfl⟩
              · simp only [if_neg (Nat.ne_of_lt hi), if_neg (Nat.ne_of_lt hj)] at eq
                exact S.inj i j x y f1 f2 l1 l2 eq
              · simp only [if_neg (Nat.ne_of_lt hi), if_true] at eq
                exact absurd (S.inj i k x _ f1 hx l1 rfl eq) (by omega)
              · simp only [if_neg (Nat.ne_of_lt hj), if_true] at eq
                exact absurd (S.inj k j _ y hx f2 rfl l2 eq) (by omega)
              · rfl
          have q := Rp.ref (K := K) (m := fun i => if i = base then m k else m i) (n := (st1.take base ++ [SO.lst xs]).length) (G := G) (i := base) (by simp [hl])
          simp only [if_true] at q
          exact ⟨.ref base, _, G, _, w G _ H ⟨Same.refl _, fun i hi => by simp only [if_neg (Nat.ne_of_lt hi)], by simp [hl]⟩ S2, q⟩
        · exact w.elim
  | _ => exact other fun k z => by cases z

section
variable {P : Program} {w : World} {K : PySem.W.Frag} {mg : Str → Option Value} {base : Heap} {x qual : Str} {params : Arguments} {body : List Stmt} {scope : Scope} {dvs : List V} {kws : List (Str × V)} {f : Addr} {fd : FuncData}
theorem er_start {m : Nat → Addr} {n : Nat} {G : Hp} {N : List Str} {vs : List V} {ds : List D} (r : RpL K m n G vs ds) : ER K m n G (L2.start N vs) (ds.map some ++ List.replicate (N.length - ds.length) none) := by
  have hl := r.length
  refine ⟨by simp [L2.start, hl], fun i d e => ?_⟩
  have hi : i < ds.length := by
    by_cases h : i < ds.length
    · exact h
    · rw [List.getElem?_append_right (by simpa using h)] at e
      rw [List.getElem?_replicate] at e
      split at e <;> cases e
  rw [List.getElem?_append_left (by simpa using hi), List.getElem?_map] at e
  cases hd : ds[i]? with
  | none => rw [hd] at e; cases e
  | some d' =>
    rw [hd] at e
    cases e
    obtain ⟨v, e1, r1⟩ := r.get hd
    refine ⟨v, ?_, r1⟩
    unfold L2.start
    rw [List.getElem?_append_left (by rw [List.length_map, hl]; exact hi), List.getElem?_map, e1]
    rfl
/-- a body's reading from its function's -/
theorem body_of {fin : Nat → D → Sto → R D} (hf : FinOk fin) {N : List Str} {n : Nat} {b : Sx} {vs : List V} {H : Hp} {Q : VK} {E : XK} (h : spI K (fnS fin n N.length b) n vs H Q E) : tS K (fun c d _ H => E c d H) b { nx := fun _ H' => Q .non H', rt := Q } (L2.start N vs) H := by
  obtain ⟨G, m, st, ds, S, r, e, w⟩ := h
  refine ⟨_, G, m, st, er_start r, S, ?_⟩
  unfold fnS at w
  rw [if_pos e] at w
  rw [e]
  have down : ∀ {G1 : Hp} {m1 : Nat → Addr} {st1 : Sto}, Tr G m st.length G1 m1 st1.length → Tr G m st.length G1 m1 st.length := fun t => ⟨t.ex, t.mm, Nat.le_refl _⟩
  cases hb : b (ds.map some ++ List.replicate (N.length - n) none) st with
  | bad =>
    rw [hb] at w
    exact w
  | exc C fs xs env1 st1 =>
    rw [hb] at w
    intro dd us σ1 G1 m1 H1 t1 S1 x1 r1 _
    exact w dd us G1 m1 H1 ⟨t1.ex, t1.mm, by rw [take_len t1.le]; exact Nat.le_refl _⟩ (S1.take _) x1 r1
  | ok fl st1 =>
    rw [hb] at w
    cases fl with
    | nx env1 =>
      intro G1 m1 H1 t1 S1 σ1 er1
      obtain ⟨d', st', G', m', p, q⟩ := hf S1 (Rp.non (K := K) (m := m1) (n := st1.length) (G := G1)) t1.le (Wp.from (down t1) w)
      exact p _ q
    | rt d =>
      intro G1 m1 H1 t1 S1 v rv
      obtain ⟨d', st', G', m', p, q⟩ := hf S1 rv t1.le (Wp.from (down t1) w)
      exact p _ q
    | bk env1 => exact w.elim
    | ct env1 => exact w.elim
/-- THE RULE for a def -/
theorem fn_ok {fin : Nat → D → Sto → R D} (hf : FinOk fin) {N ps : List Str} {k : Nat} {b : Sx} (F : FunD K x qual params body scope dvs kws f fd) (S : FnScope N ps scope)
    (hbody : ∀ (cdv : Value) (A : Around) (outer : List PySem.Env) (s : Shared) (H : Hp) (E : XK), Room k (A.deeper (envOfC qual scope s.heap.objs.size f cdv)) → Takes (cxOf (L2.CX P w) P w K mg base N qual scope f cdv A outer s H E) (fun c d _ H => E c d H) → PassesOwn (model P w) (A.deeper (envOfC qual scope s.heap.objs.size f cdv)) (envOfC qual scope s.heap.objs.size f cdv) (cxOf (L2.CX P w) P w K mg base N qual scope f cdv A outer s H E).xe →
      BI (cxOf (L2.CX P w) P w K mg base N qual scope f cdv A outer s H E) (fun c d _ H => E c d H) body b) :
    FnOk P w K mg base (L2.CX P w) (k + 1) f fd ps (spI K (fnS fin ps.length N.length b) ps.length) :=
  F.ok S spI.len fun cdv A outer s H vs Q E hr h => ⟨_, hbody cdv A outer s H E hr (takes_of rfl rfl rfl rfl) (passes_of rfl), body_of hf h⟩
end

/-! ### calls -/
/-- how a call's arguments bind, by data -/
def KB [Pin] (K : PySem.W.Frag) (fd : FuncData) (ps : List Str) (n : Nat) (ks : List Str) (gD : List D → List D → List D) : Prop :=
  ∃ g gV, KBn K fd ps n ks g gV ∧ ∀ {m : Nat → Addr} {l : Nat} {G : Hp} {vs zs : List V} {ds es : List D}, RpL K m l G vs ds → RpL K m l G zs es → RpL K m l G (gV vs zs) (gD ds es)
theorem kb_plain {K : PySem.W.Frag} {fd : FuncData} {ps : List Str} (h : Binds K fd ps []) : KB K fd ps ps.length [] (fun xs _ => xs) := by
  refine ⟨fun us _ => us, fun vs _ => vs, ⟨fun s us ws X h1 h2 => ?_, fun r _ => r⟩, fun r _ => r⟩
  have q := h s us X (by rw [List.append_nil]; exact h1)
  rw [List.append_nil] at q
  exact q
section
variable {X : Cx} {W : WX} {k n : Nat} {f C : Addr} {fd : FuncData} {ps ks : List Str} {F : Fn} {x : Str} {p pos : Pos} {e : Expr} {es : List Expr} {kws : List Keyword} {fas fak : Ax} {gD : List D → List D → List D}
abbrev KI [Pin] (X : Cx) (W : WX) (kws : List Keyword) (f : Ax) : Prop := PK X kws (tA X.K W f)
theorem pkI {X : Cx} {e : List Keyword} {t t' : TA} (h : PK X e t) (i : ∀ σ H Q, t' σ H Q → t σ H Q) : PK X e t' := ⟨fun pos pins s σ H Q I q => h.run pos pins s σ H Q I (i σ H Q q)⟩
theorem ki_nil : KI X W [] aNil := pkI pk_nil fun σ H Q ⟨env, G, m, st, er, S, w⟩ => (show Wp X.K G m st.length (.ok [] st) _ _ from w).now S [] .nil
theorem ki_cons {nm : Option Str} {kpos : Pos} {fa : Ex} (ha : EI X W e fa) (hr : KI X W kws fak) : KI X W (⟨nm, e, kpos⟩ :: kws) (aCons fa fak) := by
  refine pkI (pk_cons ha hr) fun σ H Q ⟨env, G, m, st, er, S, w⟩ => ?_
  refine ⟨env, G, m, st, er, S, w.bnd.imp fun x st1 G1 m1 H1 t1 S1 w1 v rv => ?_⟩
  refine ⟨env, G1, m1, st1, er.tr t1, S1, w1.bnd.imp fun xs st2 G2 m2 H2 t2 S2 w2 vs rvs => ?_⟩
  exact w2.now S2 _ (.cons (rv.tr t2) rvs)
theorem run_fnA {sp : Sp} {E : XK} {g : List Value → List Value → List Value} {gV : List V → List V → List V} {pins : List (Addr × Obj)} {σ : St} {H : Hp} {s : Shared} {Q : VK} {us ws : List Value} {vs zs : List V} (F : FnOk X.prog X.w X.K X.mg X.base (L2.CX X.prog X.w) k f fd ps sp) (hr : Room k X.A) (hb : KBn X.K fd ps n ks g gV) (hx : PassesAt (L2.CX X.prog X.w) X σ E)
    (I : Inv X pins σ H s) (r : Vals vs us) (rz : Vals zs ws) (l1 : vs.length = n) (l2 : zs.length = ks.length) (h : sp (gV vs zs) H Q E) : wpAny (model X.prog X.w) X.A (call (.ref f) us (ks.zip ws)) (EP X pins σ Q) X.xe s := by
  have r2 := hb.rel r rz
  refine wpAny_call (codeAny_mono (F.run X.A X.stack s H ⟨us, ks.zip ws⟩ (g us ws) (gV vs zs) Q E hr I.env0 (hb.to s us ws I.kIn (r.length.symm.trans l1) (rz.length.symm.trans l2)) r2 h) fun r s' hq => ?_)
  cases r with
  | error e => exact hx pins H s e s' I hq
  | ok fl =>
    cases fl with
    | ret u => exact I.after hq
    | next => exact False.elim hq
    | brk => exact False.elim hq
    | cont => exact False.elim hq
/-- the arguments' data, then the function -/
def tArgs [Pin] (K : PySem.W.Frag) (W : WX) (n m : Nat) (fas fak : Ax) (R : List D → List D → Sto → Hp → (Nat → Addr) → Hp → List V → List V → St → VK → Prop) : St → Hp → VK → Prop := fun σ H Q =>
  tA K W fas σ H fun vs H1 => tA K W fak σ H1 fun zs H2 => vs.length = n ∧ zs.length = m ∧ ∃ ds es st G m, SR K G m st H2 ∧ RpL K m st.length G vs ds ∧ RpL K m st.length G zs es ∧ R ds es st G m H2 vs zs σ Q
theorem args_key {K : PySem.W.Frag} {n l : Nat} {σ : St} {H : Hp} {Q : VK} {k : List D → List D → Sto → R D} (hn : ∀ env st ds st', fas env st = .ok ds st' → ds.length = n) (hl : ∀ env st ds st', fak env st = .ok ds st' → ds.length = l)
    (h : tE K W (fun env st => (fas env st).bnd fun xs st1 => (fak env st1).bnd fun ys st2 => k xs ys st2) σ H Q) :
    tA K W fas σ H fun vs H1 => tA K W fak σ H1 fun zs H2 => vs.length = n ∧ zs.length = l ∧ ∃ ds es st G m, SR K G m st H2 ∧ RpL K m st.length G vs ds ∧ RpL K m st.length G zs es ∧
      Wp K G m st.length (k ds es st) (fun d st' G' m' H' => ∀ v, Rp K m' st'.length G' v d → Q v H') fun c dd H' => W c dd σ H' := by
  obtain ⟨env, G, m, st, er, S, w⟩ := h
  refine ⟨env, G, m, st, er, S, ?_⟩
  have w := w.bnd
  cases h1 : fas env st with
  | bad => rw [h1] at w; exact w
  | exc C fs xs st1 => rw [h1] at w; exact w
  | ok ds st1 =>
    rw [h1] at w
    intro G1 m1 H1 t1 S1 vs rvs
    have w1 := w G1 m1 H1 t1 S1
    refine ⟨env, G1, m1, st1, er.tr t1, S1, ?_⟩
    dsimp only at w1
    have w1 := w1.bnd
    cases h2 : fak env st1 with
    | bad => rw [h2] at w1; exact w1
    | exc C fs xs st2 => rw [h2] at w1; exact w1
    | ok es st2 =>
      rw [h2] at w1
      intro G2 m2 H2 t2 S2 zs rzs
      exact ⟨rvs.length.trans (hn _ _ _ _ h1), rzs.length.trans (hl _ _ _ _ h2), ds, es, st2, G2, m2, S2, rvs.tr t2, rzs, w1 G2 m2 H2 t2 S2⟩
/-- a list of n argument readings -/
def AxN (n : Nat) (f : Ax) : Prop := ∀ env st ds st', f env st = .ok ds st' → ds.length = n
theorem axn_nil : AxN 0 aNil := fun env st ds st' h => by
  cases h
  rfl
theorem axn_cons {n : Nat} {fa : Ex} {f : Ax} (h : AxN n f) : AxN (n + 1) (aCons fa f) := fun env st ds st' e => by
  unfold aCons at e
  cases h1 : fa env st with
  | bad => rw [h1] at e; cases e
  | exc C fs xs st1 => rw [h1] at e; cases e
  | ok d st1 =>
    rw [h1] at e
    have e : ((f env st1).bnd fun xs st2 => .ok (d :: xs) st2) = .ok ds st' := e
    cases h2 : f env st1 with
    | bad => rw [h2] at e; cases e
    | exc C fs xs st2 => rw [h2] at e; cases e
    | ok es st2 =>
      rw [h2] at e
      cases e
      rw [List.length_cons, h _ _ _ _ h2]
theorem ei_callG (G : FnOk X.prog X.w X.K X.mg X.base (L2.CX X.prog X.w) k f fd ps (spI X.K F ps.length)) (hr : Room k X.A) (tk : Takes X W) (hg : Gl X x) (hm : X.mg x = some (.ref f)) (hk : PySem.W.keepIn X.K (.ref f) = true) (hb : KB X.K fd ps n ks gD) (hgl : ∀ xs ys, xs.length = n → ys.length = ks.length → (gD xs ys).length = ps.length)
    (ha : AI X W (e :: es) fas) (hkw : KI X W kws fak) (hn : AxN n fas) (hl : AxN ks.length fak) (hall : (backToKw pos (keywordEach kws X.env)).all (·.1.isSome) = true := by rfl) (hks : (backToKw pos (keywordEach kws X.env)).filterMap (·.1) = ks := by rfl)
    (hdb : (x == ("__debug__" : Str)) = false := by decide) (he : starEach (e :: es) X.env = (false, eval e X.env) :: starEach es X.env := by rfl)
    (hpl : ((backTo pos (starEach (e :: es) X.env)).any (·.1) || (backToKw pos (keywordEach kws X.env)).any (·.1.isNone)) = false := by rfl) : EI X W (.Call (.Name x p) (e :: es) kws pos) (eCallG F gD fas fak) := by
  obtain ⟨g, gV, hb, hrel⟩ := hb
  refine ⟨fun pins s σ H Q I h => ?_⟩
  have h := args_key hn hl h
  refine wpAny_Call_Name_kw (ld_glob I hg hm ?_ hdb)
  refine PySem.W.callWith_KW (h₀ := X.base) I.ok.mod.kin hk hall (thn (ha.run pos pins s σ H _ I h) fun us s1 ⟨vs, H1, I1, r, q⟩ => ?_) hpl he
  refine thn (hkw.run pos pins s1 σ H1 _ I1 q) fun ws s2 ⟨zs, H2, I2, rz, l1, l2, ds, es', st, G', m, S, r1, r2, w⟩ => ⟨I2.kIn, ?_⟩
  rw [hks]
  exact run_fnA G hr hb (passAt tk σ) I2 r rz l1 l2 ⟨G', m, st, gD ds es', S, hrel r1 r2, hgl _ _ (r1.length.symm.trans l1) (r2.length.symm.trans l2), w⟩
/-- only keywords -/
theorem ei_callG0 (G : FnOk X.prog X.w X.K X.mg X.base (L2.CX X.prog X.w) k f fd ps (spI X.K F ps.length)) (hr : Room k X.A) (tk : Takes X W) (hg : Gl X x) (hm : X.mg x = some (.ref f)) (hk : PySem.W.keepIn X.K (.ref f) = true) (hb : KB X.K fd ps 0 ks gD) (hgl : ∀ xs ys, xs.length = 0 → ys.length = ks.length → (gD xs ys).length = ps.length)
    (hkw : KI X W kws fak) (hl : AxN ks.length fak) (hall : (backToKw pos (keywordEach kws X.env)).all (·.1.isSome) = true := by rfl) (hks : (backToKw pos (keywordEach kws X.env)).filterMap (·.1) = ks := by rfl)
    (hdb : (x == ("__debug__" : Str)) = false := by decide) (hpl : ((backTo pos (starEach [] X.env)).any (·.1) || (backToKw pos (keywordEach kws X.env)).any (·.1.isNone)) = false := by rfl) : EI X W (.Call (.Name x p) [] kws pos) (eCallG F gD aNil fak) := by
  obtain ⟨g, gV, hb, hrel⟩ := hb
  refine ⟨fun pins s σ H Q I h => ?_⟩
  have h := args_key axn_nil hl h
  have h2 : tA X.K W fak σ H fun zs H2 => zs.length = ks.length ∧ ∃ es st G m, SR X.K G m st H2 ∧ RpL X.K m st.length G zs es ∧
      Wp X.K G m st.length (F (gD [] es) st) (fun d st' G' m' H' => ∀ v, Rp X.K m' st'.length G' v d → Q v H') fun c dd H' => W c dd σ H' := by
    have h3 := (ai_nil (pin := pin) (X := X) (W := W)).run
    obtain ⟨env, G0, m0, st0, er, S, w⟩ := h
    have w := (show Wp X.K G0 m0 st0.length (.ok [] st0) _ _ from w).now S [] .nil
    obtain ⟨env, G1, m1, st1, er, S, w⟩ := w
    refine ⟨env, G1, m1, st1, er, S, w.imp fun es st2 G2 m2 H2 t2 S2 q zs rz => ?_⟩
    obtain ⟨l1, l2, ds, es', st, G', m, S', r1, r2, w⟩ := q zs rz
    cases r1
    exact ⟨l2, es', st, G', m, S', r2, w⟩
  refine wpAny_Call_Name_kw (ld_glob I hg hm ?_ hdb)
  refine PySem.W.callWith_KW0 (h₀ := X.base) I.ok.mod.kin hk hall ?_ hpl
  refine thn (hkw.run pos pins s σ H _ I h2) fun ws s2 ⟨zs, H2, I2, rz, l2, es', st, G', m, S, r2, w⟩ => ⟨I2.kIn, ?_⟩
  rw [hks]
  exact run_fnA (us := []) (vs := []) G hr hb (passAt tk σ) I2 .nil rz rfl l2 ⟨G', m, st, gD [] es', S, hrel .nil r2, hgl _ _ rfl (r2.length.symm.trans l2), w⟩
/-- the plain call -/
theorem ei_call (G : FnOk X.prog X.w X.K X.mg X.base (L2.CX X.prog X.w) k f fd ps (spI X.K F ps.length)) (hr : Room k X.A) (tk : Takes X W) (hg : Gl X x) (hm : X.mg x = some (.ref f)) (hk : PySem.W.keepIn X.K (.ref f) = true) (hb : Binds X.K fd ps [])
    (ha : AI X W (e :: es) fas) (hn : AxN ps.length fas) (hdb : (x == ("__debug__" : Str)) = false := by decide) (he : starEach (e :: es) X.env = (false, eval e X.env) :: starEach es X.env := by rfl)
    (hpl : ((backTo pos (starEach (e :: es) X.env)).any (·.1) || (backToKw pos (keywordEach [] X.env)).any (·.1.isNone)) = false := by rfl) : EI X W (.Call (.Name x p) (e :: es) [] pos) (eCall F fas) := by
  refine peI (ei_callG (ks := []) G hr tk hg hm hk (kb_plain hb) (fun xs ys h _ => h) ha ki_nil hn axn_nil rfl rfl hdb he hpl) fun σ H Q ⟨env, G, m, st, er, S, w⟩ => ⟨env, G, m, st, er, S, ?_⟩
  exact w
end
end Cb

set_option Elab.async false
set_option linter.all false
set_option maxRecDepth 100000
set_option maxHeartbeats 4000000
/-! CbMake: new instances. -/
namespace Cb
open PySem PySem.Spec PyProof.Rows L2
variable {pin : Pin}

theorem SR.side {K : PySem.W.Frag} {m : Nat → Addr} {st : Sto} {G H : Hp} (S : SR K G m st H) {p : Addr} {o : HO} (h : H p = none) : SR K G m st (upd H p o) := by
  refine ⟨fun a u e => ?_, fun n x e => ?_, S.inj⟩
  · exact same_new h a u (S.ex a u e)
  · have k := S.at_ n x e
    refine k.mono (Same.refl _) (fun _ g => g) fun l => upd_ne fun z => ?_
    obtain ⟨_, u, hu⟩ := k.there l
    rw [z, h] at hu
    cases hu
section
variable {X : Cx} {W : WX} {k n : Nat} {f C : Addr} {fd : FuncData} {ps ks : List Str} {F : Fn} {x : Str} {p pos : Pos} {e : Expr} {es : List Expr} {kws : List Keyword} {fas fak : Ax} {gD g : List D → List D → List D}
theorem run_makeA {sp : Sp} {E : XK} {g : List Value → List Value → List Value} {gV : List V → List V → List V} {pins : List (Addr × Obj)} {σ : St} {H : Hp} {s : Shared} {Q : VK} {us ws : List Value} {vs zs : List V} (M : Mk X.K C f) (F : FnOk X.prog X.w X.K X.mg X.base (L2.CX X.prog X.w) k f fd ps sp) (hr : Room (k + 1) X.A) (hb : KBn X.K fd ps (n + 1) ks g gV)
    (hx : PassesAt (L2.CX X.prog X.w) X σ E) (I : Inv X pins σ H s) (r : Vals vs us) (rz : Vals zs ws) (l1 : vs.length = n) (l2 : zs.length = ks.length)
    (h : ∀ x dx, H x = none → H dx = none → dx ≠ x → sp (gV (.ref x :: vs) zs) (upd (upd H dx (.own x)) x (.ins C dx [])) (fun v H2 => v = .non ∧ Q (.ref x) H2) E) :
    wpAny (model X.prog X.w) X.A (call (.ref C) us (ks.zip ws)) (EP X pins σ Q) X.xe s := by
  have hq := h (s.heap.objs.size + 1) s.heap.objs.size (I.hok.fresh (Nat.le_succ _)) (I.hok.fresh (Nat.le_refl _)) (Nat.ne_of_lt (Nat.lt_succ_self _))
  have I2 := Inv.made (C := C) I
  have r1 : Vals (V.ref (s.heap.objs.size + 1) :: vs) (Value.ref (s.heap.objs.size + 1) :: us) := .cons rfl r
  have r2 := hb.rel r1 rz
  have e1 : (Value.ref (s.heap.objs.size + 1) :: us).length = n + 1 := r1.length.symm.trans (congrArg Nat.succ l1)
  have e2 : ws.length = ks.length := rz.length.symm.trans l2
  refine wpAny_call (make_map (f := f) I.kIn M.makes M.init (beq_iff_eq.mp M.fn) (codeAny_mono (F.run _ X.stack _ _ ⟨Value.ref (s.heap.objs.size + 1) :: us, ks.zip ws⟩ (g (Value.ref (s.heap.objs.size + 1) :: us) ws) _ _ E (hr.make C us (ks.zip ws))
    (I2.env0.make C us (ks.zip ws)) (hb.to _ (Value.ref (s.heap.objs.size + 1) :: us) ws I2.kIn e1 e2) r2 hq) fun r s' hq' => ?_))
  cases r with
  | error e => exact hx pins _ _ e s' I2 hq'
  | ok fl =>
    cases fl with
    | ret u =>
      obtain ⟨v, H', I3, rv, ev, q3⟩ := I2.after hq'
      subst ev
      exact ⟨rv, ⟨V.ref (s.heap.objs.size + 1), H', I3, rfl, q3⟩⟩
    | next => exact False.elim hq'
    | brk => exact False.elim hq'
    | cont => exact False.elim hq'
theorem make_key {K : PySem.W.Frag} {C : String} {H : Hp} {G : Hp} {m : Nat → Addr} {st : Sto} {ds : List D} {vs : List V} {Q : VK} {E : XK} {x dx : Addr} {nn : Nat} (S : SR K G m st H) (r : ∀ m' l, Tr G m st.length G m' l → m' st.length = x → st.length < l → RpL K m' l G vs (.ref st.length :: ds)) (hlen : (D.ref st.length :: ds).length = nn)
    (w : Wp K G m st.length (mkD C F ds st) (fun d st' G' m' H' => ∀ v, Rp K m' st'.length G' v d → Q v H') E) (hx : H x = none) (hdx : H dx = none) (ne : dx ≠ x) :
    spI K F nn vs (upd (upd H dx (.own x)) x (.ins (gaC K C) dx [])) (fun v H3 => v = .non ∧ Q (.ref x) H3) E := by
  have hx2 : upd H dx (.own x) x = none := by rw [upd_ne (Ne.symm ne)]; exact hx
  have S1 : SR K G m st (upd H dx (.own x)) := S.side hdx
  have S2 := S1.push (u := .ins (gaC K C) dx []) (o := .ins C [] []) hx2 rfl ⟨S1.free hx2, dx, [], upd_same, rfl, rpl_nil⟩
  have t2 : Tr G m st.length G (fun i => if i = st.length then x else m i) (st ++ [SO.ins C [] []]).length := S1.trPush
  refine ⟨G, _, _, .ref st.length :: ds, S2, r _ _ t2 (by simp) (by simp), hlen, ?_⟩
  unfold mkD at w
  cases hF : F (.ref st.length :: ds) (st ++ [.ins C [] []]) with
  | bad =>
    rw [hF] at w
    exact w
  | exc C' fs xs st2 =>
    rw [hF] at w
    intro dd us G3 m3 H3 t3 S3 x3 r3
    have t13 := t2.trans t3
    have hl : st.length ≤ st2.length := t13.le
    exact w dd us G3 m3 H3 ⟨t13.ex, t13.mm, by rw [take_len hl]; exact Nat.le_refl _⟩ (S3.take _) x3 r3
  | ok d st2 =>
    rw [hF] at w
    intro G3 m3 H3 t3 S3 v rv
    have t13 := t2.trans t3
    have hl : st.length ≤ st2.length := t13.le
    have hx3 : m3 st.length = x := by rw [t3.mm _ (by simp)]; simp
    cases d with
    | non =>
      cases rv
      refine ⟨rfl, ?_⟩
      dsimp only at w
      split at w
      · rename_i C' fs ys hi
        split at w
        · rename_i hC
          subst hC
          obtain ⟨G4, t4, S4, r4⟩ := S3.frzI hi
          have S5 := S4.take st.length
          rw [List.take_set_of_le (by omega)] at S5
          have q := w G4 m3 H3 ⟨t13.ex.trans t4.ex, t13.mm, by rw [take_len hl]; exact Nat.le_refl _⟩ S5 _ (r4 _)
          rw [hx3] at q
          exact q
        · exact w.elim
      · exact w.elim
    | _ => exact w.elim
/-- C(e, .., k = v, ..) -/
theorem ei_make (C : String) (M : Mk X.K (gaC X.K C) f) (G : FnOk X.prog X.w X.K X.mg X.base (L2.CX X.prog X.w) k f fd ps (spI X.K F ps.length)) (hr : Room (k + 1) X.A) (tk : Takes X W) (hg : Gl X x) (hm : X.mg x = some (.ref (gaC X.K C))) (hb : KB X.K fd ps (n + 1) ks gD) (hself : ∀ s xs ys, gD (s :: xs) ys = s :: g xs ys) (hgl : ∀ xs ys, xs.length = n → ys.length = ks.length → (g xs ys).length + 1 = ps.length)
    (ha : AI X W (e :: es) fas) (hkw : KI X W kws fak) (hn : AxN n fas) (hl : AxN ks.length fak) (hall : (backToKw pos (keywordEach kws X.env)).all (·.1.isSome) = true := by rfl) (hks : (backToKw pos (keywordEach kws X.env)).filterMap (·.1) = ks := by rfl)
    (hdb : (x == ("__debug__" : Str)) = false := by decide) (he : starEach (e :: es) X.env = (false, eval e X.env) :: starEach es X.env := by rfl)
    (hpl : ((backTo pos (starEach (e :: es) X.env)).any (·.1) || (backToKw pos (keywordEach kws X.env)).any (·.1.isNone)) = false := by rfl) : EI X W (.Call (.Name x p) (e :: es) kws pos) (eMake C F g fas fak) := by
  obtain ⟨gg, gV, hb, hrel⟩ := hb
  refine ⟨fun pins s σ H Q I h => ?_⟩
  have h := args_key hn hl h
  refine wpAny_Call_Name_kw (ld_glob I hg hm ?_ hdb)
  refine PySem.W.callWith_KW (h₀ := X.base) I.ok.mod.kin M.kp hall (thn (ha.run pos pins s σ H _ I h) fun us s1 ⟨vs, H1, I1, r, q⟩ => ?_) hpl he
  refine thn (hkw.run pos pins s1 σ H1 _ I1 q) fun ws s2 ⟨zs, H2, I2, rz, l1, l2, ds, es', st, G', m, S, r1, r2, w⟩ => ⟨I2.kIn, ?_⟩
  rw [hks]
  refine run_makeA M G hr hb (passAt tk σ) I2 r rz l1 l2 fun y dy hy hdy ne => ?_
  refine make_key (ds := g ds es') S (fun m' l t hm hlt => ?_) (by rw [List.length_cons]; exact hgl _ _ (r1.length.symm.trans l1) (r2.length.symm.trans l2)) w hy hdy ne
  rw [← hself]
  refine hrel (.cons ?_ (r1.tr t)) (r2.tr t)
  rw [← hm]
  exact .ref hlt
end
end Cb

set_option Elab.async false
set_option linter.all false
set_option maxRecDepth 100000
set_option maxHeartbeats 4000000
/-! CbIs: isinstance. -/
namespace Cb
open PySem PySem.Spec PyProof.Rows L2
variable {pin : Pin}

def rIsD (K : PySem.W.Frag) : List V → Hp → VK → Prop := fun xs H Q => ∃ (x c : V) (t : Value) (b : Bool), xs = [x, c] ∧ TyX K H x t ∧ ((∃ u, ClsV c u ∧ PySem.W.kitOne K t u = some b) ∨ (∃ tp cs us, c = .ref tp ∧ SqT K H tp cs ∧ Paired ClsV cs us ∧ PySem.W.kitAny K t us = some b)) ∧ Q (.bl b) H
theorem call_isD {X : Cx} : CallR X (.builtin "isinstance") (rIsD X.K) := by
  intro pins s σ H xs us Q I r h
  obtain ⟨x, c, t, b, rfl, ty, hc, q⟩ := h
  rcases hc with ⟨u, k, e⟩ | ⟨tp, cs, ws, rfl, hT, k, e⟩
  · exact call_isi pins s σ H _ us Q I r ⟨x, c, t, u, b, rfl, k, ty, e, q⟩
  · obtain ⟨u1, u2, rfl, r1, r2⟩ := vals2 r
    cases (show u2 = Value.ref tp from r2)
    obtain ⟨Z1, Z, p, hx⟩ := kit_of I r1 ty
    obtain ⟨its, rv, ⟨o, h1, h2, n, h3⟩, _⟩ := I.tuple hT
    have e3 := ClsV.all k rv
    subst e3
    obtain ⟨oc, od, dt, sl⟩ := o
    simp only at h2 h3
    subst h2 h3
    exact PySem.W.kia_tup Z I.kIn p h1 e hx fun tk => ⟨.bl b, H, I.tok tk, rfl, q⟩
section
variable {K : PySem.W.Frag} {P : Pg}
theorem ctF_mem {t c : String ⊕ String} {b : Bool} : ∀ {l : List ((String ⊕ String) × (String ⊕ String) × Bool)}, ctF t c l = some b → (t, c, b) ∈ l
  | [], e => by simp [ctF] at e
  | (x, y, r) :: l, e => by
    unfold ctF at e
    split at e
    · rename_i h
      cases e
      rw [h.1, h.2]
      exact List.mem_cons_self
    · exact List.mem_cons_of_mem _ (ctF_mem e)
theorem ty_of {G : Hp} {m : Nat → Addr} {st : Sto} {H : Hp} {v : V} {x : D} {t : String ⊕ String} (O : POk K P) (S : SR K G m st H) (rv : Rp K m st.length G v x) (e : (view st x).tyOf P = some t) : TyX K H v (tv K t) := by
  cases hx : view st x with
  | lst xs =>
    rw [hx] at e
    cases e
    obtain ⟨a, vs, rfl, hv, _⟩ := view_lst S rv hx
    exact .base (.lst hv)
  | non =>
    rw [hx] at e
    cases e
    rw [v_non rv hx]
    exact .base .non
  | bl b =>
    rw [hx] at e
    cases e
    rw [v_bl rv hx]
    exact .base (.bl b)
  | int b =>
    rw [hx] at e
    cases e
    rw [v_int rv hx]
    exact .base (.int b)
  | str b =>
    rw [hx] at e
    cases e
    rw [v_str rv hx]
    exact .base (.str b)
  | tup xs =>
    rw [hx] at e
    cases e
    obtain ⟨a, vs, rfl, h1, _⟩ := v_tup rv hx
    rcases same_t S.ex h1 with (h | ⟨o, h⟩) | ⟨o, its, n, h, hc, _⟩
    · exact .base (.tup h)
    · exact .fTuple h
    · exact .kTuple h hc
  | scr xs =>
    rw [hx] at e
    cases e
    obtain ⟨a, vs, rfl, h1, _⟩ := v_scr rv hx
    rcases same_l S.ex h1 with (h | ⟨o, h⟩) | ⟨o, its, n, h, hc, _⟩
    · exact .base (.lst h)
    · exact .base (.frz h)
    · exact .kList h hc
  | obj C fs xs =>
    rw [hx] at e
    have q := view_else hx (fun xs z => by cases z)
    subst q
    simp only [D.tyOf] at e
    split at e
    · rename_i hC
      cases e
      cases rv with
      | obj h1 h2 h3 =>
        obtain ⟨c1, c2, c3⟩ := O.own C hC
        exact .base (.ins (S.ex _ _ h1) c1 c2 O.bn O.bt c3)
    · cases e
  | _ =>
    rw [hx] at e
    cases e
theorem cls_of {G : Hp} {m : Nat → Addr} {n : Nat} {v : V} {x : D} {t : String ⊕ String} {b : Bool} (O : POk K P) (rv : Rp K m n G v x) (e : isi1 P t x = some b) : ∃ u, ClsV v u ∧ PySem.W.kitOne K (tv K t) u = some b := by
  cases x with
  | ty n =>
    cases rv
    exact ⟨_, .ty n, O.ct _ (ctF_mem e)⟩
  | cls C =>
    cases rv
    exact ⟨_, .own _, O.ct _ (ctF_mem e)⟩
  | _ => cases e
theorem any_of {G : Hp} {m : Nat → Addr} {n : Nat} {t : String ⊕ String} (O : POk K P) : ∀ {cs : List D} {vs : List V} {b : Bool}, RpL K m n G vs cs → (∀ c ∈ cs, ∃ r, isi1 P t c = some r) → isiA P t cs = some b → ∃ us, Paired ClsV vs us ∧ PySem.W.kitAny K (tv K t) us = some b
  | [], _, b, r, _, e => by
    cases r
    cases e
    exact ⟨[], .nil, rfl⟩
  | c :: cs, _, b, r, hc, e => by
    cases r with
    | @cons v0 vs0 _ _ r1 r2 =>
      obtain ⟨q, hq⟩ := hc c List.mem_cons_self
      obtain ⟨u, k, hu⟩ := cls_of O r1 hq
      unfold isiA at e
      have e2 : (some q).bind (fun b => if b then some true else isiA P t cs) = some b := by rw [← hq]; exact e
      cases q with
      | true =>
        cases e2
        have : ∃ us, Paired ClsV vs0 us := by
          have key : ∀ {cs : List D} {vs : List V}, RpL K m n G vs cs → (∀ c ∈ cs, ∃ r, isi1 P t c = some r) → ∃ us, Paired ClsV vs us := by
            intro cs
            induction cs with
            | nil => intro vs r _; cases r; exact ⟨[], .nil⟩
            | cons d ds ih =>
              intro vs r h
              cases r with
              | cons r1 r2 =>
                obtain ⟨q, hq⟩ := h d List.mem_cons_self
                obtain ⟨u, k, _⟩ := cls_of O r1 hq
                obtain ⟨us, hus⟩ := ih r2 fun c hc => h c (List.mem_cons_of_mem _ hc)
                exact ⟨u :: us, .cons k hus⟩
          exact key r2 fun c h => hc c (List.mem_cons_of_mem _ h)
        obtain ⟨us, hus⟩ := this
        refine ⟨u :: us, .cons k hus, ?_⟩
        unfold PySem.W.kitAny
        rw [hu]
      | false =>
        obtain ⟨us, hus, h2⟩ := any_of O r2 (fun c h => hc c (List.mem_cons_of_mem _ h)) e2
        refine ⟨u :: us, .cons k hus, ?_⟩
        unfold PySem.W.kitAny
        rw [hu]
        exact h2
theorem cs_isi (O : POk K P) : ClSem K (cIsi P) (rIsD K) := by
  intro G m st H vs xs z S rvs e Q q
  unfold cIsi at e
  split at e
  · rename_i x' c' h
    obtain ⟨x, c, rfl, rfl, rfl⟩ := map2 h
    obtain ⟨v, u, rfl, rv, ru⟩ := rp2 rvs
    cases ht : (view st x).tyOf P with
    | none => rw [ht] at e; cases e
    | some t =>
      rw [ht] at e
      have e2 : (isiC P t (view st c)).map D.bl = some z := e
      cases hi : isiC P t (view st c) with
      | none => rw [hi] at e2; cases e2
      | some b =>
        rw [hi] at e2
        cases e2
        refine ⟨v, u, tv K t, b, rfl, ty_of O S rv ht, ?_, q _ _ _ Tr.refl S (.bl _)⟩
        unfold isiC at hi
        split at hi
        · rename_i n hc
          have qc := view_else hc (fun xs z => by cases z)
          subst qc
          exact .inl (cls_of O ru hi)
        · rename_i C hc
          have qc := view_else hc (fun xs z => by cases z)
          subst qc
          exact .inl (cls_of O ru hi)
        · rename_i cs hc
          obtain ⟨a, us, rfl, h1, r1⟩ := v_tup ru hc
          split at hi
          · rename_i hall
            obtain ⟨ws, h2, h3⟩ := any_of (t := t) O r1 (fun c hm => by
              have := List.all_eq_true.mp hall c hm
              exact Option.isSome_iff_exists.mp this) hi
            exact .inr ⟨a, us, ws, rfl, same_t S.ex h1, h2, h3⟩
          · cases hi
        · cases hi
  · cases e
end
end Cb

set_option Elab.async false
set_option linter.all false
set_option maxRecDepth 100000
set_option maxHeartbeats 4000000
/-! CbPre: the rules as the printed terms name them. -/
namespace Cb
open PySem PySem.Spec PyProof.Rows L2
variable {pin : Pin}

/-- a def that stands in the module and keeps its promise -/
structure Has [Pin] (P : Program) (w : World) (K : PySem.W.Frag) (mg : Str → Option Value) (base : Heap) (k : Nat) (x : Str) (f : Addr) (ps : List Str) (F : Fn) : Prop where
  ok : ∃ fd, FnOk P w K mg base (L2.CX P w) k f fd ps (spI K F ps.length) ∧ Binds K fd ps []
  gl : mg x = some (.ref f)
  kp : PySem.W.keepIn K (.ref f) = true
theorem Has.mono {P : Program} {w : World} {K : PySem.W.Frag} {mg : Str → Option Value} {base : Heap} {j k : Nat} {x : Str} {f : Addr} {ps : List Str} {F : Fn} (h : Has P w K mg base j x f ps F) (l : j ≤ k) : Has P w K mg base k x f ps F :=
  ⟨let ⟨fd, a, b⟩ := h.ok; ⟨fd, a.mono l, b⟩, h.gl, h.kp⟩
/-- .. by arguments that the call's form puts in order -/
structure HasG [Pin] (P : Program) (w : World) (K : PySem.W.Frag) (mg : Str → Option Value) (base : Heap) (k : Nat) (x : Str) (f : Addr) (ps : List Str) (n : Nat) (ks : List Str) (gD : List D → List D → List D) (F : Fn) : Prop where
  ok : ∃ fd, FnOk P w K mg base (L2.CX P w) k f fd ps (spI K F ps.length) ∧ KB K fd ps n ks gD
  gl : mg x = some (.ref f)
  kp : PySem.W.keepIn K (.ref f) = true
/-- a class and its __init__ -/
structure HasM [Pin] (P : Program) (w : World) (K : PySem.W.Frag) (mg : Str → Option Value) (base : Heap) (k : Nat) (C : String) (ps : List Str) (n : Nat) (ks : List Str) (gD : List D → List D → List D) (F : Fn) : Prop where
  ok : ∃ f fd, Mk K (gaC K C) f ∧ FnOk P w K mg base (L2.CX P w) k f fd ps (spI K F ps.length) ∧ KB K fd ps (n + 1) ks gD
  gl : mg (Str.ofString C) = some (.ref (gaC K C))
theorem fn_bad {P : Program} {w : World} {K : PySem.W.Frag} {mg : Str → Option Value} {base : Heap} {k : Nat} {f : Addr} {fd : FuncData} {ps : List Str} : FnOk P w K mg base (L2.CX P w) k f fd ps (spI K (fun _ _ => .bad) ps.length) :=
  ⟨spI.len, fun _ _ _ _ _ _ _ _ _ _ _ _ _ ⟨_, _, _, _, _, _, _, w⟩ => w.elim⟩

section
variable {X : Cx} {W : WX} {k n : Nat} {f C : Addr} {fd : FuncData} {ps ks : List Str} {F : Fn} {x : Str} {p pos p0 : Pos} {a b e : Expr} {es : List Expr} {kws : List Keyword} {fa fb : Ex} {fas fak : Ax} {gD g : List D → List D → List D} {P : Pg}
theorem ei_f {j : Nat} (h : Has X.prog X.w X.K X.mg X.base j x f ps F) (hr : Room k X.A) (tk : Takes X W) (hj : j ≤ k) (ha : AI X W (e :: es) fas) (hn : AxN ps.length fas) (hg : Gl X x := by rfl) (hdb : (x == ("__debug__" : Str)) = false := by decide) (he : starEach (e :: es) X.env = (false, eval e X.env) :: starEach es X.env := by rfl)
    (hpl : ((backTo pos (starEach (e :: es) X.env)).any (·.1) || (backToKw pos (keywordEach [] X.env)).any (·.1.isNone)) = false := by rfl) : EI X W (.Call (.Name x p) (e :: es) [] pos) (eCall F fas) :=
  let ⟨_, h1, h2⟩ := h.ok
  ei_call h1 (hr.mono hj) tk hg h.gl h.kp h2 ha hn hdb he hpl
theorem ei_fg {j : Nat} (h : HasG X.prog X.w X.K X.mg X.base j x f ps n ks gD F) (hr : Room k X.A) (tk : Takes X W) (hj : j ≤ k) (hgl : ∀ xs ys, xs.length = n → ys.length = ks.length → (gD xs ys).length = ps.length) (ha : AI X W (e :: es) fas) (hkw : KI X W kws fak) (hn : AxN n fas) (hl : AxN ks.length fak) (hg : Gl X x := by rfl)
    (hall : (backToKw pos (keywordEach kws X.env)).all (·.1.isSome) = true := by rfl) (hks : (backToKw pos (keywordEach kws X.env)).filterMap (·.1) = ks := by rfl)
    (hdb : (x == ("__debug__" : Str)) = false := by decide) (he : starEach (e :: es) X.env = (false, eval e X.env) :: starEach es X.env := by rfl)
    (hpl : ((backTo pos (starEach (e :: es) X.env)).any (·.1) || (backToKw pos (keywordEach kws X.env)).any (·.1.isNone)) = false := by rfl) : EI X W (.Call (.Name x p) (e :: es) kws pos) (eCallG F gD fas fak) :=
  let ⟨_, h1, h2⟩ := h.ok
  ei_callG h1 (hr.mono hj) tk hg h.gl h.kp h2 hgl ha hkw hn hl hall hks hdb he hpl
theorem ei_fk {j : Nat} (h : HasG X.prog X.w X.K X.mg X.base j x f ps 0 ks gD F) (hr : Room k X.A) (tk : Takes X W) (hj : j ≤ k) (hgl : ∀ xs ys, xs.length = 0 → ys.length = ks.length → (gD xs ys).length = ps.length) (hkw : KI X W kws fak) (hl : AxN ks.length fak) (hg : Gl X x := by rfl)
    (hall : (backToKw pos (keywordEach kws X.env)).all (·.1.isSome) = true := by rfl) (hks : (backToKw pos (keywordEach kws X.env)).filterMap (·.1) = ks := by rfl)
    (hdb : (x == ("__debug__" : Str)) = false := by decide) (hpl : ((backTo pos (starEach [] X.env)).any (·.1) || (backToKw pos (keywordEach kws X.env)).any (·.1.isNone)) = false := by rfl) : EI X W (.Call (.Name x p) [] kws pos) (eCallG F gD aNil fak) :=
  let ⟨_, h1, h2⟩ := h.ok
  ei_callG0 h1 (hr.mono hj) tk hg h.gl h.kp h2 hgl hkw hl hall hks hdb hpl
theorem ei_mk {j : Nat} {C : String} (h : HasM X.prog X.w X.K X.mg X.base j C ps n ks gD F) (hr : Room k X.A) (tk : Takes X W) (hj : j + 1 ≤ k) (hself : ∀ s xs ys, gD (s :: xs) ys = s :: g xs ys) (hgl : ∀ xs ys, xs.length = n → ys.length = ks.length → (g xs ys).length + 1 = ps.length)
    (ha : AI X W (e :: es) fas) (hkw : KI X W kws fak) (hn : AxN n fas) (hl : AxN ks.length fak) (hg : Gl X (Str.ofString C) := by rfl) (hall : (backToKw pos (keywordEach kws X.env)).all (·.1.isSome) = true := by rfl) (hks : (backToKw pos (keywordEach kws X.env)).filterMap (·.1) = ks := by rfl)
    (hdb : (Str.ofString C == ("__debug__" : Str)) = false := by decide) (he : starEach (e :: es) X.env = (false, eval e X.env) :: starEach es X.env := by rfl)
    (hpl : ((backTo pos (starEach (e :: es) X.env)).any (·.1) || (backToKw pos (keywordEach kws X.env)).any (·.1.isNone)) = false := by rfl) : EI X W (.Call (.Name (Str.ofString C) p) (e :: es) kws pos) (eMake C F g fas fak) :=
  let ⟨_, _, h0, h1, h2⟩ := h.ok
  ei_make C h0 h1 (hr.mono hj) tk hg h.gl h2 hself hgl ha hkw hn hl hall hks hdb he hpl
/-! built-ins -/
section
variable (hpl : (backTo pos (starEach es X.env)).any (·.1) = false)
theorem ei_len (hm : X.mg "len" = none) (ha : AI X W [e] fas) (hg : Gl X "len" := by rfl) (he : starEach [e] X.env = (false, eval e X.env) :: starEach [] X.env := by rfl) : EI X W (.Call (.Name "len" p) [e] [] pos) (eC1 cLen fas) := ei_callB call_len cs_len hg hm boot_len ha (he := he)
theorem ei_abs (hm : X.mg "abs" = none) (ha : AI X W [e] fas) (hg : Gl X "abs" := by rfl) (he : starEach [e] X.env = (false, eval e X.env) :: starEach [] X.env := by rfl) : EI X W (.Call (.Name "abs" p) [e] [] pos) (eC1 cAbs fas) := ei_callB call_abs cs_abs hg hm boot_abs ha (he := he)
theorem ei_intc (hm : X.mg "int" = none) (ha : AI X W [e] fas) (hg : Gl X "int" := by rfl) (he : starEach [e] X.env = (false, eval e X.env) :: starEach [] X.env := by rfl) : EI X W (.Call (.Name "int" p) [e] [] pos) (eC1 cInt fas) := ei_callTy call_int1 cs_int hg hm PyProof.Rows.boot_int ha (he := he)
theorem ei_tupc (hm : X.mg "tuple" = none) (ha : AI X W [e] fas) (hg : Gl X "tuple" := by rfl) (he : starEach [e] X.env = (false, eval e X.env) :: starEach [] X.env := by rfl) : EI X W (.Call (.Name "tuple" p) [e] [] pos) (eC1 cTuple fas) := ei_callTy call_tuple_of cs_tuple hg hm PyProof.Rows.boot_tuple ha (he := he)
theorem ei_lstc (hm : X.mg "list" = none) (ha : AI X W [e] fas) (hg : Gl X "list" := by rfl) (he : starEach [e] X.env = (false, eval e X.env) :: starEach [] X.env := by rfl) : EI X W (.Call (.Name "list" p) [e] [] pos) (eC1 cList fas) := ei_callTy call_list_of cs_list hg hm PyProof.Rows.boot_list ha (he := he)
theorem ei_sum (hc : X.calm = true) (hm : X.mg "sum" = none) (ha : AI X W [e] fas) (hg : Gl X "sum" := by rfl) (he : starEach [e] X.env = (false, eval e X.env) :: starEach [] X.env := by rfl) : EI X W (.Call (.Name "sum" p) [e] [] pos) (eC1 cSum fas) := ei_callB (cr_sum2 hc) cs_sum hg hm PyProof.Rows.boot_sum ha (he := he)
theorem ei_sorted (hm : X.mg "sorted" = none) (ha : AI X W [e] fas) (hg : Gl X "sorted" := by rfl) (he : starEach [e] X.env = (false, eval e X.env) :: starEach [] X.env := by rfl) : EI X W (.Call (.Name "sorted" p) [e] [] pos) (eC1 cSorted fas) := ei_callB cr_sortedA cs_sorted hg hm PyProof.Rows.boot_sorted ha (he := he)
theorem ei_min (hc : X.calm = true) (hm : X.mg "min" = none) (ha : AI X W [a, b] fas) (hg : Gl X "min" := by rfl) (he : starEach [a, b] X.env = (false, eval a X.env) :: starEach [b] X.env := by rfl) (hpl : (backTo pos (starEach [b] X.env)).any (·.1) = false := by rfl) : EI X W (.Call (.Name "min" p) [a, b] [] pos) (eC1 cMin fas) := ei_callB (call_min2 hc) cs_min hg hm PyProof.Rows.boot_min ha (he := he) (hpl := hpl)
theorem ei_max (hc : X.calm = true) (hm : X.mg "max" = none) (ha : AI X W [a, b] fas) (hg : Gl X "max" := by rfl) (he : starEach [a, b] X.env = (false, eval a X.env) :: starEach [b] X.env := by rfl) (hpl : (backTo pos (starEach [b] X.env)).any (·.1) = false := by rfl) : EI X W (.Call (.Name "max" p) [a, b] [] pos) (eC1 cMax fas) := ei_callB (call_max2 hc) cs_max hg hm PyProof.Rows.boot_max ha (he := he) (hpl := hpl)
theorem ei_isi (O : POk X.K P) (hm : X.mg "isinstance" = none) (ha : AI X W [a, b] fas) (hg : Gl X "isinstance" := by rfl) (he : starEach [a, b] X.env = (false, eval a X.env) :: starEach [b] X.env := by rfl) (hpl : (backTo pos (starEach [b] X.env)).any (·.1) = false := by rfl) : EI X W (.Call (.Name "isinstance" p) [a, b] [] pos) (eC1 (cIsi P) fas) := ei_callB call_isD (cs_isi O) hg hm boot_isinstance ha (he := he) (hpl := hpl)
end
theorem ei_tyInt (hm : X.mg "int" = none) (hg : Gl X "int" := by rfl) : EI X W (.Name "int" p) (eC (.ty "int")) := ei_ty "int" hg hm PyProof.Rows.boot_int
theorem ei_tyBool (hm : X.mg "bool" = none) (hg : Gl X "bool" := by rfl) : EI X W (.Name "bool" p) (eC (.ty "bool")) := ei_ty "bool" hg hm PyProof.Rows.boot_bool
theorem ei_tyStr (hm : X.mg "str" = none) (hg : Gl X "str" := by rfl) : EI X W (.Name "str" p) (eC (.ty "str")) := ei_ty "str" hg hm PyProof.Rows.boot_str
theorem ei_tyTuple (hm : X.mg "tuple" = none) (hg : Gl X "tuple" := by rfl) : EI X W (.Name "tuple" p) (eC (.ty "tuple")) := ei_ty "tuple" hg hm PyProof.Rows.boot_tuple
theorem ei_tyList (hm : X.mg "list" = none) (hg : Gl X "list" := by rfl) : EI X W (.Name "list" p) (eC (.ty "list")) := ei_ty "list" hg hm PyProof.Rows.boot_list
theorem ei_own (C : String) (hm : X.mg (Str.ofString C) = some (.ref (gaC X.K C))) (hg : Gl X (Str.ofString C) := by rfl) (hd : (Str.ofString C == ("__debug__" : Str)) = false := by decide) : EI X W (.Name (Str.ofString C) p) (eC (.cls C)) := ei_cls C hg hm hd
theorem ei_ki {i : Int} (hm : ∃ t, X.mg x = some (.int i t)) (hg : Gl X x := by rfl) (hd : (x == ("__debug__" : Str)) = false := by decide) : EI X W (.Name x p) (eC (.int i)) := ei_gint hg hm hd
theorem ei_ks {z : Str} (hm : ∃ t, X.mg x = some (.str z t)) (hg : Gl X x := by rfl) (hd : (x == ("__debug__" : Str)) = false := by decide) : EI X W (.Name x p) (eC (.str z)) := ei_gstr hg hm hd
/-! *a in a display -/
theorem ai_star {q : Pos} (ha : EI X W e fa) (hr : AI X W es fas) (hs : starEach (.Starred e q :: es) X.env = (true, eval e X.env) :: starEach es X.env := by rfl) : AI X W (.Starred e q :: es) (aStar fa fas) := by
  refine paI (StX.pa_star ha hr hs) fun σ H Q ⟨env, G, m, st, er, S, w⟩ => ?_
  refine ⟨env, G, m, st, er, S, w.bnd.imp fun x st1 G1 m1 H1 t1 S1 w1 v rv => ?_⟩
  have key : ∀ {y : Addr} {us : List V} {xs : List D}, (SqT X.K H1 y us ∨ SqL X.K H1 y us) → RpL X.K m1 st1.length G1 us xs → Wp X.K G1 m1 st1.length ((fas env st1).bnd fun ys st2 => .ok (xs ++ ys) st2) (fun ds st' G' m' H' => ∀ vs, RpL X.K m' st'.length G' vs ds → Q vs H') (fun c dd H' => W c dd σ H') →
      ∃ a xs, V.ref y = .ref a ∧ (SqT X.K H1 a xs ∨ SqL X.K H1 a xs) ∧ tA X.K W fas σ H1 fun ys H2 => Q (xs ++ ys) H2 := by
    intro y us xs hq r w
    exact ⟨y, us, rfl, hq, env, G1, m1, st1, er.tr t1, S1, w.bnd.imp fun ys st2 G2 m2 H2 t2 S2 w2 vs rvs => w2.now S2 _ ((r.tr t2).app rvs)⟩
  split at w1
  · cases rv with
    | lst h1 h2 => exact key (.inr (SqL.of (S1.ex _ _ h1))) h2 w1
  · cases rv with
    | tup h1 h2 => exact key (.inl (same_t S1.ex h1)) h2 w1
  · cases rv with
    | scr h1 h2 => exact key (.inr (same_l S1.ex h1)) h2 w1
  · exact w1.elim
theorem axn_star : True := trivial
end
/-! ### binding -/
theorem vals_at : ∀ {vs : List V} {us : List Value} (i : Nat), Vals vs us → (∃ v u, vs[i]? = some v ∧ us[i]? = some u ∧ RelV v u) ∨ (vs[i]? = none ∧ us[i]? = none)
  | _, _, _, .nil => .inr ⟨by simp, by simp⟩
  | _, _, 0, .cons r _ => .inl ⟨_, _, rfl, rfl, r⟩
  | _, _, i + 1, .cons _ r => by
    rcases vals_at i r with ⟨v, u, h1, h2, h3⟩ | ⟨h1, h2⟩
    · exact .inl ⟨v, u, by simpa using h1, by simpa using h2, h3⟩
    · exact .inr ⟨by simpa using h1, by simpa using h2⟩
theorem perm_vals {vs : List V} {us : List Value} (r : Vals vs us) : ∀ ix : List Nat, Vals (perm ix vs) (perm ix us)
  | [] => .nil
  | i :: ix => by
    unfold perm
    rw [List.filterMap_cons, List.filterMap_cons]
    rcases vals_at i r with ⟨v, u, h1, h2, h3⟩ | ⟨h1, h2⟩
    · rw [h1, h2]
      exact .cons h3 (perm_vals r ix)
    · rw [h1, h2]
      exact perm_vals r ix
theorem rpl_at {K : PySem.W.Frag} {m : Nat → Addr} {n : Nat} {G : Hp} {vs : List V} {ds : List D} (i : Nat) (r : RpL K m n G vs ds) : (∃ v d, vs[i]? = some v ∧ ds[i]? = some d ∧ Rp K m n G v d) ∨ (vs[i]? = none ∧ ds[i]? = none) := by
  cases h : ds[i]? with
  | none =>
    have hl := List.getElem?_eq_none_iff.mp h
    exact .inr ⟨List.getElem?_eq_none_iff.mpr (by rw [r.length]; exact hl), rfl⟩
  | some d =>
    obtain ⟨v, h1, h2⟩ := r.get h
    exact .inl ⟨v, d, h1, rfl, h2⟩
theorem perm_rel {K : PySem.W.Frag} {m : Nat → Addr} {n : Nat} {G : Hp} {vs : List V} {ds : List D} (r : RpL K m n G vs ds) : ∀ ix : List Nat, RpL K m n G (perm ix vs) (perm ix ds)
  | [] => .nil
  | i :: ix => by
    unfold perm
    rw [List.filterMap_cons, List.filterMap_cons]
    rcases rpl_at i r with ⟨v, d, h1, h2, h3⟩ | ⟨h1, h2⟩
    · rw [h1, h2]
      exact .cons h3 (perm_rel r ix)
    · rw [h1, h2]
      exact perm_rel r ix
section
variable {K : PySem.W.Frag} {x qual : Str} {params : Arguments} {body : List Stmt} {scope : Scope} {dvs : List V} {kws : List (Str × V)} {f : Addr} {fd : FuncData} {ps : List Str}
/-- no default is looked for -/
theorem kb2 (F : FunD K x qual params body scope [] kws f fd) (n : Nat) (ks : List Str) (ix : List Nat)
    (h : ∀ (kV doc pm : Value) (an : Option Addr) (cdv ct : Value) (us ws : List Value), us.length = n → ws.length = ks.length → bindArgs (PySem.W.fnOf x qual params body scope .none kV doc pm an cdv ct) ⟨us, ks.zip ws⟩ = pure (ps.zip (perm ix (us ++ ws)))) : KB K fd ps n ks (fun xs ys => perm ix (xs ++ ys)) := by
  obtain ⟨oc, od, dV, kV, doc, pm, an, cdv, ct, osl, rfl, lk, hcd, hDf, hK⟩ := F.ex
  rcases hDf with ⟨_, rfl⟩ | ⟨e, _⟩
  · exact ⟨fun us ws => perm ix (us ++ ws), fun vs zs => perm ix (vs ++ zs), ⟨fun s us ws X h1 h2 => .of_eq (h kV doc pm an cdv ct us ws h1 h2), fun r1 r2 => perm_vals (r1.append r2) ix⟩, fun r1 r2 => perm_rel (r1.app r2) ix⟩
  · exact absurd rfl e
/-- .. the positional ones -/
theorem kb3D (F : FunD K x qual params body scope dvs kws f fd) (n : Nat) (ks : List Str) (ix : List Nat) (dd : List D) (hd : dvs ≠ []) (rd : ∀ {m : Nat → Addr} {l : Nat} {G : Hp}, RpL K m l G dvs dd)
    (h : ∀ (T : Addr) (kV doc pm : Value) (an : Option Addr) (cdv ct : Value) (us its ws : List Value), us.length = n → its.length = dvs.length → ws.length = ks.length →
      ∃ k, bindArgs (PySem.W.fnOf x qual params body scope (.ref T) kV doc pm an cdv ct) ⟨us, ks.zip ws⟩ = seqItems? (.ref T) >>= k ∧ k (some its.toArray) = pure (ps.zip (perm ix (us ++ (its ++ ws))))) : KB K fd ps n ks (fun xs ys => perm ix (xs ++ (dd ++ ys))) := by
  obtain ⟨its, hb⟩ := F.kbindsD n ks (fun us its ws => perm ix (us ++ (its ++ ws))) hd (fun r1 r2 r3 => perm_vals (r1.append (r2.append r3)) ix) h
  exact ⟨_, _, hb, fun r1 r2 => perm_rel (r1.app (rd.app r2)) ix⟩
/-- .. the keyword-only ones -/
theorem kb3 (F : FunD K x qual params body scope [] kws f fd) (n : Nat) (ks : List Str) (ms : List (Str × V)) (ix : List Nat) (md : List D) (hk : kws ≠ []) (hms : ∀ q ∈ ms, q ∈ kws) (rm : ∀ {m : Nat → Addr} {l : Nat} {G : Hp}, RpL K m l G (ms.map (·.2)) md)
    (h : ∀ (D : Addr) (doc pm : Value) (an : Option Addr) (cdv ct : Value) (us mv ws : List Value), us.length = n → mv.length = ms.length → ws.length = ks.length →
      KwChain D ((ms.map (·.1)).zip mv) (bindArgs (PySem.W.fnOf x qual params body scope .none (.ref D) doc pm an cdv ct) ⟨us, ks.zip ws⟩) (ps.zip (perm ix (us ++ (mv ++ ws))))) : KB K fd ps n ks (fun xs ys => perm ix (xs ++ (md ++ ys))) := by
  obtain ⟨mv, hb⟩ := F.kbinds0 n ks ms (fun us mv ws => perm ix (us ++ (mv ++ ws))) hk hms (fun r1 r2 r3 => perm_vals (r1.append (r2.append r3)) ix) h
  exact ⟨_, _, hb, fun r1 r2 => perm_rel (r1.app (rm.app r2)) ix⟩
/-- .. both -/
theorem kb4 (F : FunD K x qual params body scope dvs kws f fd) (n : Nat) (ks : List Str) (ms : List (Str × V)) (ix : List Nat) (dd md : List D) (hd : dvs ≠ []) (hk : kws ≠ []) (hms : ∀ q ∈ ms, q ∈ kws) (rd : ∀ {m : Nat → Addr} {l : Nat} {G : Hp}, RpL K m l G dvs dd) (rm : ∀ {m : Nat → Addr} {l : Nat} {G : Hp}, RpL K m l G (ms.map (·.2)) md)
    (h : ∀ (T D : Addr) (doc pm : Value) (an : Option Addr) (cdv ct : Value) (us its mv ws : List Value), us.length = n → its.length = dvs.length → mv.length = ms.length → ws.length = ks.length →
      ∃ k, bindArgs (PySem.W.fnOf x qual params body scope (.ref T) (.ref D) doc pm an cdv ct) ⟨us, ks.zip ws⟩ = seqItems? (.ref T) >>= k ∧ KwChain D ((ms.map (·.1)).zip mv) (k (some its.toArray)) (ps.zip (perm ix (us ++ (its ++ (mv ++ ws)))))) : KB K fd ps n ks (fun xs ys => perm ix (xs ++ (dd ++ (md ++ ys)))) := by
  obtain ⟨its, mv, hb⟩ := F.kbinds n ks ms (fun us its mv ws => perm ix (us ++ (its ++ (mv ++ ws)))) hd hk hms (fun r1 r2 r3 r4 => perm_vals (r1.append (r2.append (r3.append r4))) ix) h
  exact ⟨_, _, hb, fun r1 r2 => perm_rel (r1.app (rd.app (rm.app r2))) ix⟩
end
/-- an empty tuple of the top -/
def kwdAt (f : Str × Option Str) (x : Str) (K : PySem.W.Frag) : Addr := match K.lookup (He.fAd K f) with
  | some ⟨_, _, .func fd, _⟩ => (match fd.kwdefaults with
    | .ref D => (match PySem.W.nsIn K D x with
      | some (some (.ref a)) => a
      | _ => 0)
    | _ => 0)
  | _ => 0
def emptyB (K : PySem.W.Frag) (a : Addr) : Bool := match K.lookup a with
  | some ⟨c, _, .seq its _, _⟩ => decide (c = .type "tuple") && its.isEmpty
  | _ => false
theorem emptyB_ok {K : PySem.W.Frag} {a : Addr} (h : emptyB K a = true) {m : Nat → Addr} {n : Nat} {G : Hp} : Rp K m n G (.ref a) (.tup []) := by
  unfold emptyB at h
  split at h
  · rename_i c od its k sl e
    obtain ⟨h1, h2⟩ := Bool.and_eq_true_iff.mp h
    have h1 := of_decide_eq_true h1
    subst h1
    have h2 := Array.isEmpty_iff.mp h2
    subst h2
    exact .tup (.inr ⟨_, #[], k, e, rfl, rfl, by simp, .nil⟩) .nil
  · cases h
end Cb

set_option Elab.async false
set_option linter.all false
set_option maxRecDepth 100000
set_option maxHeartbeats 4000000
/-! CbLive: new lists that are built further. -/
namespace Cb
open PySem PySem.Spec PyProof.Rows L2
variable {pin : Pin}
section
variable {X : Cx} {W : WX} {a b c e : Expr} {es : List Expr} {fa fb fc : Ex} {pos p : Pos} {P : Pg} {s : Stmt} {ss ss' : List Stmt} {f : Sx}
theorem lcL_key {vs : List Nat} {K : PySem.W.Frag} {src : Ax} {g : Gx} {t : Tx} {fa : Ex} {σ : St} {H : Hp} {Q : VK} (h : tE K W (eLcL src g vs t fa) σ H Q) : tLc (tI K W src) (tG K vs g) (tT K W0 t) (tE K W0 fa) vs σ H Q := by
  obtain ⟨env, G, m, st, er, S, w⟩ := h
  refine ⟨env, G, m, st, er, S, w.bnd.imp fun ds st1 G1 m1 H1 t1 S1 w1 J hJ => fun Da hDa => ?_⟩
  generalize hr : lcL g t fa st1.length ds (wipeE env vs) (st1 ++ [.lst []]) = r at w1
  have S2 := S1.push (u := .lst []) (o := .lst []) hDa rfl ⟨S1.free hDa, [], upd_same, rpl_nil⟩
  have t12 : Tr G1 m1 st1.length G1 (fun i => if i = st1.length then Da else m1 i) (st1 ++ [SO.lst []]).length := S1.trPush
  generalize hm2 : (fun i => if i = st1.length then Da else m1 i) = m2 at S2 t12
  have hD : m2 st1.length = Da := by rw [← hm2]; simp
  have hn2 : st1.length < (st1 ++ [SO.lst []]).length := by simp
  have er2 : ER K m2 (st1 ++ [SO.lst []]).length G1 (wipe σ vs) (wipeE env vs) := er_wipe ((er.tr t1).tr t12) vs
  refine ⟨fun i k H => i + k = ds.length ∧ ∃ G m st, Tr G1 m2 (st1 ++ [SO.lst []]).length G m st.length ∧ SR K G m st H ∧ lcL g t fa st1.length (ds.drop i) (wipeE env vs) st = r, ⟨ds.length, by omega, G1, m2, _, Tr.refl, S2, hr⟩,
    fun i k H3 ⟨hk, G3, m3, st3, t3, S3, e3⟩ => ?_⟩
  have hD3 : m3 st1.length = Da := by rw [t3.mm _ hn2, hD]
  have hlen : st1.length < st3.length := Nat.lt_of_lt_of_le hn2 t3.le
  have t13 : Tr G1 m1 st1.length G3 m3 st3.length := t12.trans t3
  cases k with
  | zero =>
    left
    rw [List.drop_eq_nil_of_le (by omega), lcL] at e3
    refine ⟨(hJ i _ _ _ _ t13 S3).2 (by omega), ?_⟩
    split at e3
    · rename_i acc ha
      subst e3
      have w2 := w1
      dsimp only [Cb.R.bnd] at w2
      have hl : (st3.take (st1.length + 1)).length = st1.length + 1 := by rw [List.length_take]; omega
      have S5 := S3.take (st1.length + 1)
      refine w2 G3 m3 H3 ⟨t13.ex, t13.mm, by rw [hl]; omega⟩ S5 _ ?_
      rw [← hD3]
      exact .ref (by rw [hl]; omega)
    · subst e3
      exact (show False from w1).elim
  | succ k =>
    right
    have hlt : i < ds.length := by omega
    have hd : ds[i]? = some ds[i] := List.getElem?_eq_getElem hlt
    obtain ⟨hgo, hy⟩ := (hJ i _ _ _ _ t13 S3).1 _ hd
    rw [drop_cons hd, lcL] at e3
    refine ⟨hgo, fun H' => i + 1 + k = ds.length ∧ ∃ G m st, Tr G1 m2 (st1 ++ [SO.lst []]).length G m st.length ∧ SR K G m st H' ∧ lcL g t fa st1.length (ds.drop (i + 1)) (wipeE env vs) st = r, fun H' h => ⟨k, by omega, h⟩, fun x H4 hx => ?_⟩
    obtain ⟨G4, t4, S4, r4⟩ := hy x H4 hx
    have bad : r ≠ .bad := fun z => by
      rw [z] at w1
      exact w1
    cases hgd : g ds[i] (wipeE env vs) with
    | none =>
      rw [hgd] at e3
      exact absurd e3.symm bad
    | some env4 =>
      rw [hgd] at e3
      refine ⟨_, G4, m3, st3, ds[i], env4, (er2.tr t3).tr t4, S4, r4, hgd, fun σ4 er4 hw => ⟨?_, env4, G4, m3, st3, er4, S4, ?_⟩⟩
      · rw [hw]
        exact wipe_in vs fun u h => h
      · dsimp only at e3
        cases hte : t env4 st3 with
        | bad =>
          rw [hte] at e3
          exact absurd e3.symm bad
        | exc C fs xs st5 =>
          rw [hte] at e3
          exact absurd e3.symm bad
        | ok q st5 =>
          rw [hte] at e3
          intro G5 m5 H5 t5 S5
          have t15 : Tr G1 m2 (st1 ++ [SO.lst []]).length G5 m5 st5.length := (t3.trans t4).trans t5
          dsimp only
          cases q with
          | false =>
            rw [if_neg Bool.false_ne_true]
            exact ⟨by omega, G5, m5, st5, t15, S5, e3⟩
          | true =>
            rw [if_pos rfl]
            refine ⟨env4, G5, m5, st5, er4.tr t5, S5, ?_⟩
            dsimp only at e3
            cases hfe : fa env4 st5 with
            | bad =>
              rw [hfe] at e3
              exact absurd e3.symm bad
            | exc C fs xs st6 =>
              rw [hfe] at e3
              exact absurd e3.symm bad
            | ok d st6 =>
              rw [hfe] at e3
              intro G6 m6 H6 t6 S6 v rv
              dsimp only at e3
              split at e3
              · rename_i acc ha
                split at e3
                · rename_i hcd
                  obtain ⟨g6, us, hu, rl⟩ := S6.at_ _ _ ha
                  have t16 := t15.trans t6
                  have hD6 : m6 st1.length = Da := by rw [t16.mm _ hn2, hD]
                  rw [hD6] at hu g6
                  refine ⟨us, hu, by rw [rl.length]; exact Nat.lt_of_lt_of_le hcd.2 big, by omega, G6, m6, _, t16.trans S6.trSet, ?_, e3⟩
                  have S7 := S6.set (i := st1.length) (o' := .lst (acc ++ [d])) (u := .lst (us ++ [v])) ha rfl ⟨by rw [hD6]; exact g6, _, upd_same, rl.app (RpL.one (rv.gnd d v hcd.1))⟩
                  rw [hD6] at S7
                  exact S7
                · exact absurd e3.symm bad
              · exact absurd e3.symm bad
theorem ei_lcL {tg iter : Expr} {ifs : List Expr} {scope : Scope} {own : List (Str × Nat)} {src : Ax} {g : Gx} {t : Tx} (hc : X.calm = true) (hN : X.N.Nodup) (hi : II X W tg iter src) (ok : BlkOk X.N X.env.scope scope own)
    (hg : ∀ (s : Shared) (H : Hp) (C : Addr) (cl : List (Str × Addr)) (fp : List Addr), GI (X.blk s H scope (compEnvC scope cl C X.env) fp) (own.map (·.2)) tg g)
    (ht : ∀ (s : Shared) (H : Hp) (C : Addr) (cl : List (Str × Addr)) (fp : List Addr), TsI (X.blk s H scope (compEnvC scope cl C X.env) fp) ifs t)
    (he : ∀ (s : Shared) (H : Hp) (C : Addr) (cl : List (Str × Addr)) (fp : List Addr), EI (X.blk s H scope (compEnvC scope cl C X.env) fp) W0 e fa) (hs : ∀ x, foldedSetIterable iter X.env x = pure x := by intro _; rfl) :
    EI X W (.ListComp e [⟨tg, iter, ifs, 0⟩] scope pos) (eLcL src g (own.map (·.2)) t fa) := by
  exact peI (pe_lc (g := tG X.K (own.map (·.2)) g) (tt := tT X.K W0 t) (te := tE X.K W0 fa) hc hN hi ok hg ht he hs) fun _ _ _ h => lcL_key h
/-- name = [..] -/
theorem si_setLcL (i : Nat) {y : Str} {py : Pos} {spos : Pos} {tg iter : Expr} {ifs : List Expr} {scope : Scope} {own : List (Str × Nat)} {src : Ax} {g : Gx} {t : Tx} (hc : X.calm = true) (hN : X.N.Nodup) (hi : II X W tg iter src) (ok : BlkOk X.N X.env.scope scope own)
    (hg : ∀ (s : Shared) (H : Hp) (C : Addr) (cl : List (Str × Addr)) (fp : List Addr), GI (X.blk s H scope (compEnvC scope cl C X.env) fp) (own.map (·.2)) tg g)
    (ht : ∀ (s : Shared) (H : Hp) (C : Addr) (cl : List (Str × Addr)) (fp : List Addr), TsI (X.blk s H scope (compEnvC scope cl C X.env) fp) ifs t)
    (he : ∀ (s : Shared) (H : Hp) (C : Addr) (cl : List (Str × Addr)) (fp : List Addr), EI (X.blk s H scope (compEnvC scope cl C X.env) fp) W0 e fa)
    (hsw : swapsWith (.ListComp e [⟨tg, iter, ifs, 0⟩] scope pos) (some (.Name y py)) spos.line X.env = pure true) (hy : X.N[i]? = some y := by rfl) (hyl : X.env.scope.names.lookup y = some .local := by rfl) (hs : ∀ x, foldedSetIterable iter X.env x = pure x := by intro _; rfl) :
    SI X W (.Assign [.Name y py] (.ListComp e [⟨tg, iter, ifs, 0⟩] scope pos) spos) (sAsg (eLcL src g (own.map (·.2)) t fa) (gName i)) := by
  refine psI (ps_setLc (g := tG X.K (own.map (·.2)) g) (tt := tT X.K W0 t) (te := tE X.K W0 fa) hc hN hy hyl hsw hi ok hg ht he hs) fun D σ H ⟨env, G, m, st, er, S, w⟩ => ?_
  refine lcL_key ⟨env, G, m, st, er, S, (WS.st er w).imp fun x st1 G1 m1 H1 t1 S1 w1 v rv => ?_⟩
  exact (show WS X.K G1 m1 st1.length (.ok (.nx (env.set i (some x))) st1) _ _ from w1).now S1 _ ((er.tr t1).set i rv)
theorem ei_addL (ha : EI X W a fa) (hb : EI X W b fb) : EI X W (.BinOp a .Add b pos) (eAddL fa fb) := by
  refine peI (pe_op op_cat ha hb) fun σ H Q ⟨env, G, m, st, er, S, w⟩ => ?_
  refine ⟨env, G, m, st, er, S, w.bnd.imp fun x st1 G1 m1 H1 t1 S1 w1 v rv => ?_⟩
  refine ⟨env, G1, m1, st1, er.tr t1, S1, w1.bnd.imp fun y st2 G2 m2 H2 t2 S2 w2 u ru => ?_⟩
  split at w2
  · rename_i xs ys hx hy
    split at w2
    · rename_i hc
      obtain ⟨p, vs, rfl, h1, r1⟩ := view_lst S2 (rv.tr t2) hx
      obtain ⟨q, us, rfl, h2, r2⟩ := view_lst S2 ru hy
      refine ⟨p, q, vs, us, rfl, rfl, h1, h2, by rw [r1.length, r2.length]; exact le_line hc.1, fun z hz => ?_⟩
      have S3 := S2.push (u := .lst (vs ++ us)) (o := .lst (xs ++ ys)) hz rfl ⟨S2.free hz, _, upd_same, (r1.gnd xs vs hc.2.1).app (r2.gnd ys us hc.2.2)⟩
      refine w2 G2 _ _ S2.trPush S3 _ ?_
      have q := Rp.ref (K := X.K) (m := fun i => if i = st2.length then z else m2 i) (n := (st2 ++ [SO.lst (xs ++ ys)]).length) (G := G2) (i := st2.length) (by simp)
      simp only [if_true] at q
      exact q
    · exact w2.elim
  · exact w2.elim
end
end Cb

set_option Elab.async false
set_option linter.all false
set_option maxRecDepth 100000
set_option maxHeartbeats 4000000
/-! CbEnd: the law's call. -/
namespace Cb
open PySem PySem.Spec PyProof.Rows L2
variable {pin : Pin}
theorem fn0 {P : Program} {w : World} {K : PySem.W.Frag} {mg : Str → Option Value} {base : Heap} {k n : Nat} {f : Addr} {fd : FuncData} {ps : List Str} {F : Fn} (h : FnOk P w K mg base (L2.CX P w) k f fd ps (spI K F n)) :
    FnOk P w K mg base CX0 k f fd ps (fun vs H Q _ => spI K F n vs H Q fun _ _ _ => False) := by
  refine ⟨fun vs H Q E q => h.len vs H Q _ q, fun A outer s H args us vs Q E hr he hb hv hs => codeAny_mono (h.run A outer s H args us vs Q _ hr he hb hv hs) fun r s' q => ?_⟩
  cases r with
  | error e =>
    obtain ⟨_, _, _, _, _, _, _, _, _, _, _, _, z⟩ := (show L2.CX P w outer H s (fun _ _ _ => False) e s' from q)
    exact z.elim
  | ok fl =>
    cases fl with
    | ret u => exact q
    | next => exact q
    | brk => exact q
    | cont => exact q
theorem law_sp {K : PySem.W.Frag} {H : Hp} {a : Addr} {ns : List Int} {F : Fn} {st : Sto} (hS : SqL K H a (ns.map V.int)) (h : F [.scr (ns.map D.int)] [] = .ok (.bl true) st) : spI K F 1 [.ref a] H (fun v _ => v = .bl true) fun _ _ _ => False := by
  refine ⟨H, fun _ => 0, [], [.scr (ns.map D.int)], ⟨Same.refl _, fun n o e => by simp at e, fun i j o p e => by simp at e⟩, .cons (.scr hS (rel_ints ns)) .nil, rfl, ?_⟩
  rw [h]
  intro G' m' H' _ _ v rv
  cases rv
  rfl
end Cb

set_option Elab.async false
set_option linter.all false
set_option maxRecDepth 100000
set_option maxHeartbeats 4000000
/-! CbHook: the head's facts over a written list of addresses. -/
namespace Cb
open PySem PySem.Spec PyProof.Rows L2 He
variable {pin : Pin}
/-- addresses by their distance from the first def's -/
def asR (x : Str) (os : List Nat) (g : Addr → Option Obj) : List Addr := mainGlobals :: cStatics :: os.map fun o => ga (frG g [mainGlobals]) x + o - 1000
def obsA (as : List Addr) (fa : List Fa) (fn : List DefD) (ex : PySem.W.Frag → Bool) (g : Addr → Option Obj) : AlD × Bool := (obsD fa fn (frG g as), ex (frG g as))
structure SaysA (fa : List Fa) (fn : List DefD) (ex : PySem.W.Frag → Bool) (K : PySem.W.Frag) : Prop where
  d : SaysD fa fn K
  more : ex K = true
def hookA (as : (Addr → Option Obj) → List Addr) (fa : List Fa) (fn : List DefD) (ex : PySem.W.Frag → Bool) : PySem.W.Hook where
  α := AlD × Bool
  obs := fun s => obsA (as s.heap.get?) fa fn ex s.heap.get?
  val := fun _ => (valD fn, true)
  says := fun _ h => ∃ K : PySem.W.Frag, K.In h ∧ SaysA fa fn ex K
  of := fun _ _ e => ⟨_, frG_in, congrArg (fun z : AlD × Bool => z.1) e, congrArg (fun z : AlD × Bool => z.2) e⟩
  keeps := fun _ _ _ ⟨K, hK, c⟩ k => ⟨K, PySem.W.Frag.In.keeps hK k, c⟩
theorem obsA_eq {as : (Addr → Option Obj) → List Addr} {fa : List Fa} {fn : List DefD} {ex : PySem.W.Frag → Bool} {g : Addr → Option Obj} {s : Shared} (h : ∀ a, g a = s.heap.get? a) : obsA (as g) fa fn ex g = (hookA as fa fn ex).obs s := by
  have e : g = s.heap.get? := funext h
  rw [e] <;> rfl
end Cb

set_option Elab.async false
set_option linter.all false
set_option maxRecDepth 100000
set_option maxHeartbeats 4000000
/-! CbProp: properties of own classes. -/
namespace Cb
open PySem PySem.Spec PyProof.Rows L2
variable {pin : Pin}
def propP (K : PySem.W.Frag) (C : Addr) (f : Str) : Addr := match PySem.W.findIn K (.ref C) f with
  | some (some (.ref p)) => p
  | _ => 0
def propG (K : PySem.W.Frag) (C : Addr) (f : Str) : Addr := match PySem.W.recIn K (propP K C f) "property" with
  | some (.ref g :: _) => g
  | _ => 0
def propB (K : PySem.W.Frag) (C : Addr) (f : Str) : Bool := decide (PySem.W.findIn K (.ref C) f = some (some (.ref (propP K C f)))) && (decide (PySem.W.specialIn K (.ref (propP K C f)) "__get__" = some (some (.builtin "property.__get__"))) &&
  (decide (PySem.W.takesIn K (.ref (propP K C f)) = some true) && (match PySem.W.recIn K (propP K C f) "property" with
    | some (.ref _ :: _) => true
    | _ => false)))
theorem propB_ok {K : PySem.W.Frag} {C : Addr} {f : Str} (h : propB K C f = true) : PropOf K C f (propP K C f) (propG K C f) := by
  obtain ⟨h1, h⟩ := Bool.and_eq_true_iff.mp (show (_ && _) = true from h)
  obtain ⟨h2, h⟩ := Bool.and_eq_true_iff.mp h
  obtain ⟨h3, h⟩ := Bool.and_eq_true_iff.mp h
  refine ⟨of_decide_eq_true h1, of_decide_eq_true h2, of_decide_eq_true h3, ?_⟩
  unfold propG
  revert h
  split
  · rename_i g rest e
    intro _
    exact ⟨rest, e⟩
  · intro h
    cases h
theorem passes_nox {X : Cx} : Passes (L2.CX X.prog X.w) X.nox (fun _ _ _ => False) := fun pins σ H s e s' I c => by
  obtain ⟨_, _, _, _, _, _, _, _, _, _, _, _, z⟩ := c
  exact z.elim
section
variable {X : Cx} {W : WX} {e : Expr} {fa : Ex} {pos : Pos} {k j : Nat}
theorem ei_prop0 (C f : String) {g p : Addr} {fd : FuncData} {F : Fn} (c : Cls X.K (gaC X.K C)) (hp : PropOf X.K (gaC X.K C) (Str.ofString f) p g) (G : FnOk X.prog X.w X.K X.mg X.base (L2.CX X.prog X.w) k g fd ["self"] (spI X.K F 1)) (hb : Binds X.K fd ["self"] []) (hr : Room (k + 1) X.A)
    (ha : EI X W e fa) (hab : attributeBase e (Str.ofString f) X.env (eval e X.env) = eval e X.env := by rfl) : EI X W (.Attribute e (Str.ofString f) pos) (ePrp C F fa) := by
  refine peI (pe_prop (E := fun _ _ _ => False) (ds := []) (dvs := []) ha c hp G hr hb .nil passes_nox hab) fun σ H Q ⟨env, G0, m, st, er, S, w⟩ => ?_
  refine ⟨env, G0, m, st, er, S, ?_⟩
  unfold ePrp at w
  refine (Wp.bnd w).imp fun x st1 G1 m1 H1 t1 S1 w1 v r => ?_
  cases x with
  | obj C' fs xs =>
    cases r with
    | @obj a dx _ ns vs _ h1 h2 h3 =>
      have w2 : Wp X.K G1 m1 st1.length (if C' = C then (match F [.obj C' fs xs] st1 with
        | .ok d st2 => .ok d st2
        | _ => .bad) else .bad) _ _ := w1
      split at w2
      · rename_i hC
        subst hC
        refine ⟨a, dx, _, rfl, S1.ex _ _ h1, ?_⟩
        refine ⟨G1, m1, st1, [.obj C' fs xs], S1, .cons (.obj h1 h2 h3) .nil, rfl, ?_⟩
        cases hF : F [.obj C' fs xs] st1 with
        | ok d st2 =>
          rw [hF] at w2
          exact w2
        | exc K fs xs st2 =>
          rw [hF] at w2
          exact w2.elim
        | bad =>
          rw [hF] at w2
          exact w2.elim
      · exact w2.elim
  | _ => exact w1.elim
/-- the property f of the class C keeps its promise -/
structure HasP [Pin] (P : Program) (w : World) (K : PySem.W.Frag) (mg : Str → Option Value) (base : Heap) (k : Nat) (C f : String) (F : Fn) : Prop where
  cls : Cls K (gaC K C)
  ok : ∃ p g fd, PropOf K (gaC K C) (Str.ofString f) p g ∧ FnOk P w K mg base (L2.CX P w) k g fd ["self"] (spI K F 1) ∧ Binds K fd ["self"] []
theorem ei_prop {C f : String} {F : Fn} (h : HasP X.prog X.w X.K X.mg X.base j C f F) (hr : Room k X.A) (hj : j + 1 ≤ k) (ha : EI X W e fa) (hab : attributeBase e (Str.ofString f) X.env (eval e X.env) = eval e X.env := by rfl) : EI X W (.Attribute e (Str.ofString f) pos) (ePrp C F fa) :=
  let ⟨_, _, _, h1, h2, h3⟩ := h.ok
  ei_prop0 C f h.cls h1 h2 h3 (hr.mono hj) ha hab
end
end Cb

set_option Elab.async false
set_option linter.all false
set_option maxRecDepth 100000
set_option maxHeartbeats 4000000
/-! CbHook2: .. and defs found by a path of one's own: a property's getter, an exception's __init__. -/
namespace Cb
open PySem PySem.Spec PyProof.Rows L2 He
variable {pin : Pin}
abbrev FnX : Type := Option (Str × Str × Arguments × FuncBody × Scope × Addr × List Str × Addr)
def fnX (K : PySem.W.Frag) (a : Addr) : FnX := match K.lookup a with
  | some ⟨_, _, .func fd, _⟩ => some (fd.name, fd.qualname, fd.params, fd.body, fd.scope, fd.globals, fd.closure.map (·.1), fd.builtins)
  | _ => none
structure XD where
  at_ : PySem.W.Frag → Addr
  name : Str
  qual : Str
  params : Arguments
  body : List Stmt
  scope : Scope
  clo : List Str
def XD.val (d : XD) : FnX := some (d.name, d.qual, d.params, .stmts d.body, d.scope, mainGlobals, d.clo, builtinsNs)
def XD.ok (K : PySem.W.Frag) (d : XD) : Bool := PySem.W.keepIn K (.ref (d.at_ K)) && (match K.lookup (d.at_ K) with
  | some ⟨_, _, .func fd, _⟩ => PySem.W.codeIn K fd.code d.qual && (dflB K fd.defaults [] && kwdB K fd.kwdefaults [])
  | _ => false)
theorem band {a b : Bool} (h : (a && b) = true) : a = true ∧ b = true := Bool.and_eq_true_iff.mp h
theorem XD.fd {K : PySem.W.Frag} {d : XD} (e : fnX K (d.at_ K) = d.val) (c : d.ok K = true) : ∃ (oc : Value) (od : Option Addr) (osl : Array (Option Value)) (dV kV doc pm : Value) (an : Option Addr) (cdv ct : Value) (cl : List (Str × Addr)),
    K.lookup (d.at_ K) = some ⟨oc, od, .func (PySem.W.fnX d.name d.qual d.params d.body d.scope cl dV kV doc pm an cdv ct), osl⟩ ∧ cl.map (·.1) = d.clo ∧ PySem.W.codeIn K cdv d.qual = true ∧ DflV K dV [] ∧ KwdV K kV [] ∧ PySem.W.keepIn K (.ref (d.at_ K)) = true := by
  obtain ⟨kp, c2⟩ := band c
  unfold fnX at e
  cases q : K.lookup (d.at_ K) with
  | none =>
    rw [q] at c2
    cases c2
  | some o =>
    obtain ⟨oc, od, dt, osl⟩ := o
    rw [q] at c2 e
    cases dt with
    | func fd =>
      obtain ⟨n1, n2, n3, n4, n5, n6, n7, n8, n9, n10, n11, n12, n13, n14, n15⟩ := fd
      have e2 : (some (n1, n2, n3, n4, n5, n6, n7.map (·.1), n15) : FnX) = some (d.name, d.qual, d.params, .stmts d.body, d.scope, mainGlobals, d.clo, builtinsNs) := e
      simp only [Option.some.injEq, Prod.mk.injEq] at e2
      obtain ⟨h1, h2, h3, h4, h5, h6, h7, h8⟩ := e2
      have c3 : (PySem.W.codeIn K n13 d.qual && (dflB K n8 [] && kwdB K n9 [])) = true := c2
      obtain ⟨k1, k2⟩ := band c3
      obtain ⟨k3, k4⟩ := band k2
      refine ⟨oc, od, osl, n8, n9, n10, n11, n12, n13, n14, n7, ?_, h7, k1, dflB_ok k3, kwdB_ok k4, kp⟩
      rw [← h1, ← h2, ← h3, ← h5]
      show some _ = some _
      subst h6 h8
      rw [h4]
    | _ => cases c2
/-- no cell captured: a def as any other -/
theorem XD.funD {K : PySem.W.Frag} {d : XD} (e : fnX K (d.at_ K) = d.val) (c : d.ok K = true) (hc : d.clo = []) : ∃ fd, FunD K d.name d.qual d.params d.body d.scope [] [] (d.at_ K) fd := by
  obtain ⟨oc, od, osl, dV, kV, doc, pm, an, cdv, ct, cl, lk, hcl, h1, h2, h3, h4⟩ := XD.fd e c
  rw [hc] at hcl
  have : cl = [] := by simpa using hcl
  subst this
  exact ⟨_, ⟨oc, od, dV, kV, doc, pm, an, cdv, ct, osl, rfl, lk, h1, h2, h3⟩, h4⟩
def obsX (as : List Addr) (fa : List Fa) (fn : List DefD) (fx : List XD) (ex : PySem.W.Frag → Bool) (g : Addr → Option Obj) : AlD × List FnX × Bool := (obsD fa fn (frG g as), fx.map fun d => fnX (frG g as) (d.at_ (frG g as)), (fx.all fun d => d.ok (frG g as)) && ex (frG g as))
structure SaysX (fa : List Fa) (fn : List DefD) (fx : List XD) (ex : PySem.W.Frag → Bool) (K : PySem.W.Frag) : Prop where
  d : SaysD fa fn K
  x : (fx.map fun d => fnX K (d.at_ K)) = fx.map XD.val
  more : ((fx.all fun d => d.ok K) && ex K) = true
def hookX (as : (Addr → Option Obj) → List Addr) (fa : List Fa) (fn : List DefD) (fx : List XD) (ex : PySem.W.Frag → Bool) : PySem.W.Hook where
  α := AlD × List FnX × Bool
  obs := fun s => obsX (as s.heap.get?) fa fn fx ex s.heap.get?
  val := fun _ => (valD fn, fx.map XD.val, true)
  says := fun _ h => ∃ K : PySem.W.Frag, K.In h ∧ SaysX fa fn fx ex K
  of := fun _ _ e => ⟨_, frG_in, congrArg (fun z : AlD × List FnX × Bool => z.1) e, congrArg (fun z : AlD × List FnX × Bool => z.2.1) e, congrArg (fun z : AlD × List FnX × Bool => z.2.2) e⟩
  keeps := fun _ _ _ ⟨K, hK, c⟩ k => ⟨K, PySem.W.Frag.In.keeps hK k, c⟩
theorem obsX_eq {as : (Addr → Option Obj) → List Addr} {fa : List Fa} {fn : List DefD} {fx : List XD} {ex : PySem.W.Frag → Bool} {g : Addr → Option Obj} {s : Shared} (h : ∀ a, g a = s.heap.get? a) : obsX (as g) fa fn fx ex g = (hookX as fa fn fx ex).obs s := by
  have e : g = s.heap.get? := funext h
  rw [e] <;> rfl
theorem SaysX.xd {fa : List Fa} {fn : List DefD} {fx : List XD} {ex : PySem.W.Frag → Bool} {K : PySem.W.Frag} (c : SaysX fa fn fx ex K) (i : Nat) {d : XD} (h : fx[i]? = some d := by rfl) : fnX K (d.at_ K) = d.val ∧ d.ok K = true := by
  have h1 := c.x
  have h2 : (fx.map fun d => fnX K (d.at_ K))[i]? = (fx.map XD.val)[i]? := by rw [h1]
  rw [List.getElem?_map, List.getElem?_map, h] at h2
  have h3 := (band c.more).1
  exact ⟨by simpa using h2, List.all_eq_true.mp h3 d (List.mem_of_getElem? h)⟩
theorem SaysX.ex {fa : List Fa} {fn : List DefD} {fx : List XD} {ex : PySem.W.Frag → Bool} {K : PySem.W.Frag} (c : SaysX fa fn fx ex K) : ex K = true := (band c.more).2
end Cb

set_option Elab.async false
set_option linter.all false
set_option maxRecDepth 100000
/-! CbEval: running the functional reading by simp; loops by invariants. -/
namespace Cb
open PySem (Str)
section
variable {α β : Type} (a : α) (st : Sto) (env : Env) (C : String) (fs : List String) (xs : List D)
namespace Run
@[scoped simp] theorem bnd_ok (k : α → Sto → R β) : (R.ok a st).bnd k = k a st := rfl
@[scoped simp] theorem bnd_bad (k : α → Sto → R β) : (R.bad : R α).bnd k = .bad := rfl
@[scoped simp] theorem bnd_exc (k : α → Sto → R β) : (R.exc C fs xs st : R α).bnd k = .exc C fs xs st := rfl
@[scoped simp] theorem st_ok (k : α → Sto → RS) : (R.ok a st).st env k = k a st := rfl
@[scoped simp] theorem st_bad (k : α → Sto → RS) : (R.bad : R α).st env k = .bad := rfl
@[scoped simp] theorem st_exc (k : α → Sto → RS) : (R.exc C fs xs st : R α).st env k = .exc C fs xs env st := rfl
end Run
@[simp] theorem of_some : R.of (some a) st = .ok a st := rfl
@[simp] theorem of_none : (R.of none st : R α) = .bad := rfl
end
/-! views -/
@[simp] theorem view_int (st : Sto) (i : Int) : view st (.int i) = .int i := rfl
@[simp] theorem view_bl (st : Sto) (i : Bool) : view st (.bl i) = .bl i := rfl
@[simp] theorem view_str (st : Sto) (i : Str) : view st (.str i) = .str i := rfl
@[simp] theorem view_non (st : Sto) : view st .non = .non := rfl
@[simp] theorem view_tup (st : Sto) (xs : List D) : view st (.tup xs) = .tup xs := rfl
@[simp] theorem view_lst0 (st : Sto) (xs : List D) : view st (.lst xs) = .lst xs := rfl
@[simp] theorem view_scr (st : Sto) (xs : List D) : view st (.scr xs) = .scr xs := rfl
@[simp] theorem view_obj (st : Sto) (C : String) (fs : List String) (xs : List D) : view st (.obj C fs xs) = .obj C fs xs := rfl
@[simp] theorem view_exn (st : Sto) (C : String) (fs : List String) (xs : List D) : view st (.exn C fs xs) = .exn C fs xs := rfl
@[simp] theorem view_cls (st : Sto) (C : String) : view st (.cls C) = .cls C := rfl
@[simp] theorem view_ty (st : Sto) (C : String) : view st (.ty C) = .ty C := rfl
theorem view_ref {st : Sto} {n : Nat} {xs : List D} (h : st[n]? = some (.lst xs)) : view st (.ref n) = .lst xs := by simp [view, h]
/-! expressions -/
section
variable (env : Env) (st : Sto)
namespace Run
@[scoped simp] theorem eVar_ap (i : Nat) : eVar i env st = match env[i]? with
  | some (some d) => .ok d st
  | _ => .bad := rfl
@[scoped simp] theorem eC_ap (d : D) : eC d env st = .ok d st := rfl
@[scoped simp] theorem eU_ap (f : D → Option D) (a : Ex) : eU f a env st = (a env st).bnd fun x st1 => R.of (f (view st1 x)) st1 := rfl
@[scoped simp] theorem eB_ap (f : D → D → Option D) (a b : Ex) : eB f a b env st = (a env st).bnd fun x st1 => (b env st1).bnd fun y st2 => R.of (f (view st2 x) (view st2 y)) st2 := rfl
@[scoped simp] theorem eCh_ap (f g : D → D → Option D) (a b c : Ex) : eCh f g a b c env st = (a env st).bnd fun x st1 => (b env st1).bnd fun y st2 => match f (view st2 x) (view st2 y) with
  | some (.bl true) => (c env st2).bnd fun z st3 => R.of (g (view st3 y) (view st3 z)) st3
  | some (.bl false) => .ok (.bl false) st2
  | _ => .bad := rfl
@[scoped simp] theorem eAnd_ap (a b : Ex) : eAnd a b env st = (a env st).bnd fun x st1 => match x with
  | .bl true => b env st1
  | .bl false => .ok (.bl false) st1
  | _ => .bad := rfl
@[scoped simp] theorem eOr_ap (a b : Ex) : eOr a b env st = (a env st).bnd fun x st1 => match x with
  | .bl true => .ok (.bl true) st1
  | .bl false => b env st1
  | _ => .bad := rfl
@[scoped simp] theorem eNot_ap (a : Ex) : eNot a env st = (a env st).bnd fun x st1 => match x with
  | .bl b => .ok (.bl (!b)) st1
  | _ => .bad := rfl
@[scoped simp] theorem eIf_ap (c : Tx) (a b : Ex) : eIf c a b env st = (c env st).bnd fun t st1 => if t then a env st1 else b env st1 := rfl
@[scoped simp] theorem aNil_ap : aNil env st = .ok [] st := rfl
@[scoped simp] theorem aCons_ap (a : Ex) (as : Ax) : aCons a as env st = (a env st).bnd fun x st1 => (as env st1).bnd fun xs st2 => .ok (x :: xs) st2 := rfl
@[scoped simp] theorem aStar_ap (a : Ex) (as : Ax) : aStar a as env st = (a env st).bnd fun x st1 => match x with
  | .lst xs => (as env st1).bnd fun ys st2 => .ok (xs ++ ys) st2
  | .tup xs => (as env st1).bnd fun ys st2 => .ok (xs ++ ys) st2
  | .scr xs => (as env st1).bnd fun ys st2 => .ok (xs ++ ys) st2
  | _ => .bad := rfl
@[scoped simp] theorem eTup_ap (as : Ax) : eTup as env st = (as env st).bnd fun xs st1 => if xs.length ≤ 1000000 then .ok (.tup xs) st1 else .bad := rfl
@[scoped simp] theorem eLst_ap (as : Ax) : eLst as env st = (as env st).bnd fun xs st1 => if xs.length ≤ 1000000 then .ok (.lst xs) st1 else .bad := rfl
@[scoped simp] theorem eLstL_ap (as : Ax) : eLstL as env st = (as env st).bnd fun xs st1 => if xs.length ≤ 1000000 ∧ D.gnds xs = true then .ok (.ref st1.length) (st1 ++ [.lst xs]) else .bad := rfl
@[scoped simp] theorem eCall_ap (F : Fn) (as : Ax) : eCall F as env st = (as env st).bnd F := rfl
@[scoped simp] theorem eCallG_ap (F : Fn) (g : List D → List D → List D) (as ak : Ax) : eCallG F g as ak env st = (as env st).bnd fun xs st1 => (ak env st1).bnd fun ys st2 => F (g xs ys) st2 := rfl
@[scoped simp] theorem eMake_ap (C : String) (F : Fn) (g : List D → List D → List D) (as ak : Ax) : eMake C F g as ak env st = (as env st).bnd fun xs st1 => (ak env st1).bnd fun ys st2 => mkD C F (g xs ys) st2 := rfl
@[scoped simp] theorem eSl_ap (a : Ex) (lo hi : Env → Sto → R (Option Int)) : eSl a lo hi env st = (a env st).bnd fun x st1 => (lo env st1).bnd fun l st2 => (hi env st2).bnd fun h st3 => R.of (oSl (view st3 x) l h) st3 := rfl
@[scoped simp] theorem pNone_ap : pNone env st = .ok none st := rfl
@[scoped simp] theorem pSome_ap (a : Ex) : pSome a env st = (a env st).bnd fun x st1 => match x with
  | .int i => .ok (some i) st1
  | _ => .bad := rfl
@[scoped simp] theorem eC1_ap (f : List D → Option D) (as : Ax) : eC1 f as env st = (as env st).bnd fun xs st1 => R.of (f (xs.map (view st1))) st1 := rfl
@[scoped simp] theorem eFld_ap (P : Pg) (a : Ex) (f : String) : eFld P a f env st = (a env st).bnd fun x st1 => match x with
  | .obj C fs xs => R.of (attrD P C f fs xs) st1
  | .exn _ _ _ => .bad
  | .ref n => (match st1[n]? with
    | some (.ins C fs xs) => R.of (attrD P C f fs xs) st1
    | _ => .bad)
  | _ => .bad := rfl
@[scoped simp] theorem eAddL_ap (a b : Ex) : eAddL a b env st = (a env st).bnd fun x st1 => (b env st1).bnd fun y st2 => match view st2 x, view st2 y with
  | .lst xs, .lst ys => if xs.length + ys.length ≤ 1000000 ∧ D.gnds xs = true ∧ D.gnds ys = true then .ok (.ref st2.length) (st2 ++ [.lst (xs ++ ys)]) else .bad
  | _, _ => .bad := rfl
@[scoped simp] theorem eLc_ap (src : Ax) (g : Gx) (own : List Nat) (c : Tx) (e : Ex) : eLc src g own c e env st = (src env st).bnd fun ds st1 => (lcL g c e st1.length ds (wipeE env own) (st1 ++ [.lst []])).bnd fun xs st2 => .ok (.lst xs) (st2.take st1.length) := rfl
@[scoped simp] theorem eLcL_ap (src : Ax) (g : Gx) (own : List Nat) (c : Tx) (e : Ex) : eLcL src g own c e env st = (src env st).bnd fun ds st1 => (lcL g c e st1.length ds (wipeE env own) (st1 ++ [.lst []])).bnd fun _ st2 => .ok (.ref st1.length) (st2.take (st1.length + 1)) := rfl
@[scoped simp] theorem eBad_ap : eBad env st = .bad := rfl
end Run
/-! tests -/
namespace Run
@[scoped simp] theorem tB_ap (a : Ex) : tB a env st = (a env st).bnd fun x st1 => match x with
  | .bl b => .ok b st1
  | _ => .bad := rfl
@[scoped simp] theorem tAnd_ap (a b : Tx) : tAnd a b env st = (a env st).bnd fun x st1 => if x then b env st1 else .ok false st1 := rfl
@[scoped simp] theorem tOr_ap (a b : Tx) : tOr a b env st = (a env st).bnd fun x st1 => if x then .ok true st1 else b env st1 := rfl
@[scoped simp] theorem tNot_ap (a : Tx) : tNot a env st = (a env st).bnd fun x st1 => .ok (!x) st1 := rfl
@[scoped simp] theorem tYes_ap : tYes env st = .ok true st := rfl
end Run
/-! targets -/
@[simp] theorem gName_ap (i : Nat) (d : D) : gName i d env = some (env.set i (some d)) := rfl
@[simp] theorem gNil_ap : gNil [] env = some env := rfl
@[simp] theorem gCons_ap (g : Gx) (gs : List D → Env → Option Env) (d : D) (r : List D) : gCons g gs (d :: r) env = (g d env).bind (gs r) := rfl
@[simp] theorem gTup_ap (gs : List D → Env → Option Env) (ds : List D) : gTup gs (.tup ds) env = gs ds env := rfl
/-! iterations -/
namespace Run
@[scoped simp] theorem iAny_ap (a : Ex) : iAny a env st = (a env st).bnd fun x st1 => match x with
  | .lst xs => .ok xs st1
  | .scr xs => .ok xs st1
  | .tup xs => .ok xs st1
  | .str z => .ok (z.cps.toList.map fun c => D.str ⟨#[c]⟩) st1
  | _ => .bad := rfl
@[scoped simp] theorem iEnum_ap (a : Ex) : iEnum a env st = (a env st).bnd fun x st1 => match x with
  | .lst xs => .ok (enumD 0 xs) st1
  | .tup xs => .ok (enumD 0 xs) st1
  | _ => .bad := rfl
@[scoped simp] theorem iRng1_ap (as : Ax) : iRng1 as env st = (as env st).bnd fun xs st1 => match xs with
  | [.int j] => if -1000000 ≤ j ∧ j ≤ 1000000 then .ok (rgD 0 j) st1 else .bad
  | _ => .bad := rfl
@[scoped simp] theorem iRng2_ap (as : Ax) : iRng2 as env st = (as env st).bnd fun xs st1 => match xs with
  | [.int i, .int j] => if -1000000 ≤ i ∧ i ≤ 1000000 ∧ -1000000 ≤ j ∧ j ≤ 1000000 then .ok (rgD i j) st1 else .bad
  | _ => .bad := rfl
@[scoped simp] theorem iRng3_ap (as : Ax) : iRng3 as env st = (as env st).bnd fun xs st1 => match xs with
  | [.int i, .int j, .int k] => if 0 < k ∧ k ≤ 1000 ∧ -1000000 ≤ i ∧ i ≤ 1000000 ∧ -1000000 ≤ j ∧ j ≤ 1000000 then .ok (rg3D i j k) st1 else .bad
  | _ => .bad := rfl
end Run
/-! statements -/
namespace Run
@[scoped simp] theorem sNil_ap : sNil env st = .ok (.nx env) st := rfl
@[scoped simp] theorem sSeq_ap (a b : Sx) : sSeq a b env st = match a env st with
  | .ok (.nx env1) st1 => b env1 st1
  | r => r := rfl
@[scoped simp] theorem sIf_ap (c : Tx) (a b : Sx) : sIf c a b env st = (c env st).st env fun t st1 => if t then a env st1 else b env st1 := rfl
@[scoped simp] theorem sRet_ap (a : Ex) : sRet a env st = (a env st).st env fun d st1 => .ok (.rt d) st1 := rfl
@[scoped simp] theorem sBreak_ap : sBreak env st = .ok (.bk env) st := rfl
@[scoped simp] theorem sCont_ap : sCont env st = .ok (.ct env) st := rfl
@[scoped simp] theorem sDrop_ap (a : Ex) : sDrop a env st = (a env st).st env fun _ st1 => .ok (.nx env) st1 := rfl
@[scoped simp] theorem sAsg_ap (a : Ex) (g : Gx) : sAsg a g env st = (a env st).st env fun d st1 => match g d env with
  | some env1 => .ok (.nx env1) st1
  | none => .bad := rfl
@[scoped simp] theorem sFrz_ap (i : Nat) : sFrz i env st = match env[i]? with
  | some (some (.ref n)) => (match st[n]? with
    | some (.lst xs) => .ok (.nx (env.set i (some (.lst xs)))) (st.set n .dead)
    | _ => .bad)
  | _ => .bad := rfl
@[scoped simp] theorem sFld_ap (P : Pg) (i : Nat) (f : String) (a : Ex) : sFld P i f a env st = (a env st).st env fun d st1 => match env[i]? with
  | some (some (.ref n)) => (match st1[n]? with
    | some (.ins C fs xs) => if d.gnd = true ∧ fs.length < 1000 ∧ f ∉ fs ∧ C ∈ P.own ∧ (C, f) ∈ P.fld then .ok (.nx env) (st1.set n (.ins C (fs ++ [f]) (xs ++ [d]))) else .bad
    | _ => .bad)
  | _ => .bad := rfl
@[scoped simp] theorem sApp_ap (i : Nat) (a : Ex) : sApp i a env st = match env[i]? with
  | some (some (.ref n)) => (match st[n]? with
    | some (.lst _) => (a env st).st env fun d st1 => (match st1[n]? with
      | some (.lst xs) => if d.gnd = true ∧ xs.length < 1000000 then .ok (.nx env) (st1.set n (.lst (xs ++ [d]))) else .bad
      | _ => .bad)
    | _ => .bad)
  | _ => .bad := rfl
@[scoped simp] theorem sSet_ap (i : Nat) (k a : Ex) : sSet i k a env st = (a env st).st env fun d st1 => match env[i]? with
  | some (some (.ref n)) => (k env st1).st env fun z st2 => (match z with
    | .int j => (match st2[n]? with
      | some (.lst xs) => (match ixD xs.length j with
        | some q => if d.gnd = true then .ok (.nx env) (st2.set n (.lst (xs.set q d))) else .bad
        | none => .bad)
      | _ => .bad)
    | _ => .bad)
  | _ => .bad := rfl
@[scoped simp] theorem sFor_ap (src : Ax) (g : Gx) (b : Sx) : sFor src g b env st = (src env st).st env fun ds st1 => forL g b ds env st1 := rfl
@[scoped simp] theorem sBad_ap : sBad env st = .bad := rfl
end Run
end
namespace Run
@[scoped simp] theorem fnS_ap (fin : Nat → D → Sto → R D) (n slots : Nat) (b : Sx) (ds : List D) (st : Sto) : fnS fin n slots b ds st = if ds.length = n then (match b (ds.map some ++ List.replicate (slots - n) none) st with
  | .ok (.nx _) st1 => fin st.length .non st1
  | .ok (.rt d) st1 => fin st.length d st1
  | .exc C fs xs _ st1 => .exc C fs xs (st1.take st.length)
  | _ => .bad) else .bad := rfl
end Run
@[simp] theorem wipeE_nil (env : Env) : wipeE env [] = env := rfl
@[simp] theorem wipeE_cons (env : Env) (v : Nat) (vs : List Nat) : wipeE env (v :: vs) = (wipeE env vs).set v none := rfl
@[simp] theorem finR_int (b : Nat) (i : Int) (st : Sto) : finR b (.int i) st = .ok (.int i) (st.take b) := rfl
@[simp] theorem finR_bl (b : Nat) (i : Bool) (st : Sto) : finR b (.bl i) st = .ok (.bl i) (st.take b) := rfl
@[simp] theorem finR_str (b : Nat) (i : Str) (st : Sto) : finR b (.str i) st = .ok (.str i) (st.take b) := rfl
@[simp] theorem finR_non (b : Nat) (st : Sto) : finR b .non st = .ok .non (st.take b) := rfl
theorem finR_gnd {b : Nat} {d : D} {st : Sto} (h : d.gnd = true) : finR b d st = .ok d (st.take b) := by
  cases d <;> first | (simp [D.gnd] at h; done) | (simp [finR, h]; done) | rfl
theorem finR_ref {b k : Nat} {st : Sto} {xs : List D} (hk : ¬ k < b) (h : st[k]? = some (.lst xs)) : finR b (.ref k) st = .ok (.lst xs) (st.take b) := by simp [finR, hk, h]
theorem finL_ref {b k : Nat} {st : Sto} {xs : List D} (hk : ¬ k < b) (h : st[k]? = some (.lst xs)) : finL b (.ref k) st = .ok (.ref b) (st.take b ++ [.lst xs]) := by simp [finL, hk, h]
/-! operations -/
section
variable (i j : Int) (x y : Str) (a b : Bool)
@[simp] theorem oAdd_int : oAdd (.int i) (.int j) = some (.int (i + j)) := rfl
@[simp] theorem oSub_int : oSub (.int i) (.int j) = some (.int (i - j)) := rfl
@[simp] theorem oNeg_int : oNeg (.int i) = some (.int (-i)) := rfl
@[simp] theorem oLt_int : oLt (.int i) (.int j) = some (.bl (decide (i < j))) := rfl
@[simp] theorem oLe_int : oLe (.int i) (.int j) = some (.bl (decide (i ≤ j))) := rfl
@[simp] theorem oGt_int : oGt (.int i) (.int j) = some (.bl (decide (j < i))) := rfl
@[simp] theorem oGe_int : oGe (.int i) (.int j) = some (.bl (decide (j ≤ i))) := rfl
theorem oMod_pos (h : 0 < j) : oMod (.int i) (.int j) = some (.int (i % j)) := by simp [oMod, h]
theorem oDiv_pos (h : 0 < j) (h2 : j < 2 ^ 64) : oDiv (.int i) (.int j) = some (.int (i / j)) := by
  have : j.natAbs.log2 < 9000 := by
    have h3 : j.natAbs < 2 ^ 9000 := by
      have h4 : j.natAbs < 2 ^ 64 := by omega
      exact Nat.lt_of_lt_of_le h4 (Nat.pow_le_pow_right (by decide) (by decide))
    exact (Nat.log2_lt (by omega)).mpr h3
  simp [oDiv, h, this]
theorem oMul_r (h : -(2 ^ 64) < j) (h2 : j < 2 ^ 64) : oMul (.int i) (.int j) = some (.int (i * j)) := by
  have : mulOk i j = true := decide_eq_true (.inr (.inl ⟨h, h2⟩))
  simp [oMul, this]
theorem oMul_l (h : -(2 ^ 64) < i) (h2 : i < 2 ^ 64) : oMul (.int i) (.int j) = some (.int (i * j)) := by
  have : mulOk i j = true := decide_eq_true (.inl ⟨h, h2⟩)
  simp [oMul, this]
@[simp] theorem oEq_int : oEq (.int i) (.int j) = some (.bl (i == j)) := by simp [oEq, D.plain, D.eqv]
@[simp] theorem oNe_int : oNe (.int i) (.int j) = some (.bl (!(i == j))) := by simp [oNe, D.plain, D.eqv]
@[simp] theorem oEq_str : oEq (.str x) (.str y) = some (.bl (x == y)) := by simp [oEq, D.plain, D.eqv]
@[simp] theorem oNe_str : oNe (.str x) (.str y) = some (.bl (!(x == y))) := by simp [oNe, D.plain, D.eqv]
@[simp] theorem oEq_bl : oEq (.bl a) (.bl b) = some (.bl (a == b)) := by simp [oEq, D.plain, D.eqv]
@[simp] theorem oIsN_non : oIsN .non .non = some (.bl true) := rfl
@[simp] theorem oNotN_non : oNotN .non .non = some (.bl false) := rfl
@[simp] theorem oIsN_int : oIsN (.int i) .non = some (.bl false) := rfl
@[simp] theorem oNotN_int : oNotN (.int i) .non = some (.bl true) := rfl
@[simp] theorem oIsN_bl : oIsN (.bl a) .non = some (.bl false) := rfl
@[simp] theorem oIsN_str : oIsN (.str x) .non = some (.bl false) := rfl
@[simp] theorem oIsN_tup (xs : List D) : oIsN (.tup xs) .non = some (.bl false) := rfl
@[simp] theorem oIsN_lst (xs : List D) : oIsN (.lst xs) .non = some (.bl false) := rfl
@[simp] theorem oNotN_tup (xs : List D) : oNotN (.tup xs) .non = some (.bl true) := rfl
@[simp] theorem cLen_tup (xs : List D) : cLen [.tup xs] = some (.int xs.length) := rfl
@[simp] theorem cLen_lst (xs : List D) : cLen [.lst xs] = some (.int xs.length) := rfl
@[simp] theorem cLen_scr (xs : List D) : cLen [.scr xs] = some (.int xs.length) := rfl
@[simp] theorem cAbs_int : cAbs [.int i] = some (.int (if i < 0 then -i else i)) := rfl
@[simp] theorem cInt_int : cInt [.int i] = some (.int i) := rfl
@[simp] theorem cMin_int : cMin [.int i, .int j] = some (.int (if j < i then j else i)) := rfl
@[simp] theorem cMax_int : cMax [.int i, .int j] = some (.int (if j > i then j else i)) := rfl
@[simp] theorem cTuple_lst (xs : List D) : cTuple [.lst xs] = some (.tup xs) := rfl
@[simp] theorem cTuple_tup (xs : List D) : cTuple [.tup xs] = some (.tup xs) := rfl
theorem ixD_nat {n k : Nat} (h : k < n) : ixD n (k : Int) = some k := by
  unfold ixD
  rw [if_pos (by omega), if_pos (by omega)]
  simp
theorem oIx_lst {xs : List D} {k : Nat} {d : D} (h : xs[k]? = some d) : oIx (.lst xs) (.int (k : Int)) = some d := by
  have hk := (List.getElem?_eq_some_iff.mp h).1
  simp only [oIx, ixD_nat hk, Option.bind_some, h]
theorem oIx_tup {xs : List D} {k : Nat} {d : D} (h : xs[k]? = some d) : oIx (.tup xs) (.int (k : Int)) = some d := by
  have hk := (List.getElem?_eq_some_iff.mp h).1
  simp only [oIx, ixD_nat hk, Option.bind_some, h]
end
theorem sIxD_nat (n d k : Nat) : sIxD n d (some (k : Int)) = min k n := by
  show (if (k : Int) < 0 then ((k : Int) + (n : Int)).toNat else min (k : Int).toNat n) = min k n
  rw [if_neg (by omega)]
  simp
theorem oSl_take (xs : List D) (k : Nat) : oSl (.lst xs) none (some (k : Int)) = some (.lst (xs.take k)) := by
  show some (D.lst ((xs.drop 0).take (sIxD xs.length xs.length (some (k : Int)) - 0))) = _
  rw [sIxD_nat, List.drop_zero]
  congr 2
  rw [Nat.sub_zero, ← List.take_take, List.take_length]
/-! loops -/
@[simp] theorem forL_nil (g : Gx) (b : Sx) (env : Env) (st : Sto) : forL g b [] env st = .ok (.nx env) st := rfl
theorem forL_ex {g : Gx} {b : Sx} {ds : List D} {I : Nat → Env → Sto → Prop} {Rt : D → Sto → Prop}
    (h : ∀ i d env st, ds[i]? = some d → I i env st → ∃ env1, g d env = some env1 ∧ ((∃ env2 st2, (b env1 st = .ok (.nx env2) st2 ∨ b env1 st = .ok (.ct env2) st2) ∧ I (i + 1) env2 st2) ∨ ∃ r st2, b env1 st = .ok (.rt r) st2 ∧ Rt r st2)) :
    ∀ {env st}, I 0 env st → (∃ env' st', forL g b ds env st = .ok (.nx env') st' ∧ I ds.length env' st') ∨ ∃ r st', forL g b ds env st = .ok (.rt r) st' ∧ Rt r st' := by
  have key : ∀ (n k : Nat) (env : Env) (st : Sto), k + n = ds.length → I k env st → (∃ env' st', forL g b (ds.drop k) env st = .ok (.nx env') st' ∧ I ds.length env' st') ∨ ∃ r st', forL g b (ds.drop k) env st = .ok (.rt r) st' ∧ Rt r st' := by
    intro n
    induction n with
    | zero =>
      intro k env st hk hI
      rw [List.drop_eq_nil_of_le (by omega)]
      have : k = ds.length := by omega
      exact .inl ⟨env, st, rfl, this ▸ hI⟩
    | succ n ih =>
      intro k env st hk hI
      have hlt : k < ds.length := by omega
      have hd : ds[k]? = some ds[k] := List.getElem?_eq_getElem hlt
      obtain ⟨env1, hg, h1⟩ := h k _ env st hd hI
      rw [List.drop_eq_getElem_cons hlt, forL, hg]
      dsimp only
      rcases h1 with ⟨env2, st2, hb, hI2⟩ | ⟨r, st2, hb, hR⟩
      · rcases hb with hb | hb
        · rw [hb]
          exact ih (k + 1) env2 st2 (by omega) hI2
        · rw [hb]
          exact ih (k + 1) env2 st2 (by omega) hI2
      · rw [hb]
        exact .inr ⟨r, st2, rfl, hR⟩
  intro env st hI
  have := key ds.length 0 env st (by omega) hI
  simpa using this
/-- no way out but the end -/
theorem forL_inv {g : Gx} {b : Sx} {ds : List D} {I : Nat → Env → Sto → Prop}
    (h : ∀ i d env st, ds[i]? = some d → I i env st → ∃ env1 env2 st2, g d env = some env1 ∧ b env1 st = .ok (.nx env2) st2 ∧ I (i + 1) env2 st2) {env : Env} {st : Sto} (h0 : I 0 env st) : ∃ env' st', forL g b ds env st = .ok (.nx env') st' ∧ I ds.length env' st' := by
  have := forL_ex (g := g) (b := b) (ds := ds) (I := I) (Rt := fun _ _ => False) (fun i d env st hd hI => by
    obtain ⟨env1, env2, st2, h1, h2, h3⟩ := h i d env st hd hI
    exact ⟨env1, h1, .inl ⟨env2, st2, .inl h2, h3⟩⟩) h0
  rcases this with h | ⟨_, _, _, h⟩
  · exact h
  · exact h.elim
/-- a comprehension whose items and tests leave the store as it is -/
theorem lcL_map {g : Gx} {c : Tx} {e : Ex} {env : Env} {st : Sto} {p : D → Bool} {h : D → D} : ∀ (ds acc : List D), acc.length + ds.length ≤ 1000000 →
    (∀ d ∈ ds, ∃ env1, g d env = some env1 ∧ ∀ acc : List D, c env1 (st ++ [.lst acc]) = .ok (p d) (st ++ [.lst acc]) ∧ (p d = true → e env1 (st ++ [.lst acc]) = .ok (h d) (st ++ [.lst acc]) ∧ (h d).gnd = true)) →
    lcL g c e st.length ds env (st ++ [.lst acc]) = .ok (acc ++ (ds.filter p).map h) (st ++ [.lst (acc ++ (ds.filter p).map h)])
  | [], acc, _, _ => by simp [lcL]
  | d :: ds, acc, hl, hd => by
    obtain ⟨env1, hg, hc⟩ := hd d List.mem_cons_self
    have hrest := fun x hx => hd x (List.mem_cons_of_mem _ hx)
    rw [lcL, hg]
    dsimp only
    rw [(hc acc).1]
    cases hp : p d with
    | false =>
      simp only [hp]
      rw [lcL_map ds acc (by simp at hl; omega) hrest, List.filter_cons, hp]
      simp
    | true =>
      simp only [hp]
      obtain ⟨h1, h2⟩ := (hc acc).2 hp
      rw [h1]
      have hlen : acc.length < 1000000 := by simp at hl; omega
      simp only [List.getElem?_concat_length, h2, hlen, and_self, if_true]
      rw [show (st ++ [SO.lst acc]).set st.length (.lst (acc ++ [h d])) = st ++ [.lst (acc ++ [h d])] by simp]
      rw [lcL_map ds (acc ++ [h d]) (by simp at hl ⊢; omega) hrest, List.filter_cons, hp]
      simp
end Cb

set_option Elab.async false
set_option linter.all false
set_option maxRecDepth 100000
/-! CbW: what holds behind a run: simp runs the reading up to a call or a loop that wants a word of its own. -/
namespace Cb
open PySem (Str)
namespace Vv
open Run
abbrev _root_.Cb.XP := String → List String → List D → Sto → Prop
abbrev _root_.Cb.XQ := String → List String → List D → Env → Sto → Prop
def _root_.Cb.R.V {α : Type} (r : R α) (Q : α → Sto → Prop) (X : XP) : Prop := match r with
  | .ok a st => Q a st
  | .exc C fs xs st => X C fs xs st
  | .bad => False
def _root_.Cb.RS.V (r : RS) (N : Env → Sto → Prop) (T : D → Sto → Prop) (B C : Env → Sto → Prop) (X : XQ) : Prop := match r with
  | .ok (.nx e) st => N e st
  | .ok (.rt d) st => T d st
  | .ok (.bk e) st => B e st
  | .ok (.ct e) st => C e st
  | .exc K fs xs e st => X K fs xs e st
  | .bad => False
abbrev _root_.Cb.NX : XP := fun _ _ _ _ => False
abbrev _root_.Cb.NB : Env → Sto → Prop := fun _ _ => False
/-- a test whose outcome is open -/
def dIf (c : Prop) (p q : Prop) : Prop := (c → p) ∧ (¬ c → q)
section
variable {α β : Type} {Q Q' : α → Sto → Prop} {X X' : XP} {N N' : Env → Sto → Prop} {T T' : D → Sto → Prop} {B B' C C' : Env → Sto → Prop} {Y Y' : XQ}
@[scoped simp] theorem dIf_true (p q : Prop) : dIf True p q = p := by simp [dIf]
@[scoped simp] theorem dIf_false (p q : Prop) : dIf False p q = q := by simp [dIf]
theorem _root_.Cb.R.V.imp {r : R α} (h : r.V Q X) (k : ∀ a st, Q a st → Q' a st) (kx : ∀ K fs xs st, X K fs xs st → X' K fs xs st) : r.V Q' X' := by
  cases r with
  | ok a st => exact k _ _ h
  | exc K fs xs st => exact kx _ _ _ _ h
  | bad => exact h
theorem _root_.Cb.R.V.to {r : R α} (h : r.V Q NX) (k : ∀ a st, Q a st → Q' a st) : r.V Q' X' := h.imp k (fun _ _ _ _ z => z.elim)
theorem _root_.Cb.RS.V.imp {r : RS} (h : r.V N T B C Y) (kn : ∀ e st, N e st → N' e st) (kt : ∀ d st, T d st → T' d st) (kb : ∀ e st, B e st → B' e st) (kc : ∀ e st, C e st → C' e st) (kx : ∀ K fs xs e st, Y K fs xs e st → Y' K fs xs e st) : r.V N' T' B' C' Y' := by
  cases r with
  | ok f st => cases f <;> first | exact kn _ _ h | exact kt _ _ h | exact kb _ _ h | exact kc _ _ h
  | exc K fs xs e st => exact kx _ _ _ _ _ h
  | bad => exact h
theorem W_eq {r : R α} {a : α} {st : Sto} (h : r.V (fun b s => b = a ∧ s = st) NX) : r = .ok a st := by
  cases r with
  | ok b s => obtain ⟨rfl, rfl⟩ := h; rfl
  | _ => exact h.elim
theorem W_ex {r : R α} {a : α} (h : r.V (fun b _ => b = a) NX) : ∃ st, r = .ok a st := by
  cases r with
  | ok b s => obtain rfl := h; exact ⟨_, rfl⟩
  | _ => exact h.elim
theorem W_get {r : R α} (h : r.V Q NX) : ∃ a st, r = .ok a st ∧ Q a st := by
  cases r with
  | ok b s => exact ⟨_, _, rfl, h⟩
  | _ => exact h.elim
@[scoped simp, scoped simp↓] theorem W_ok (a : α) (st : Sto) : (R.ok a st).V Q X = Q a st := rfl
@[scoped simp, scoped simp↓] theorem W_bad : (R.bad : R α).V Q X = False := rfl
@[scoped simp, scoped simp↓] theorem W_exc (K : String) (fs : List String) (xs : List D) (st : Sto) : (R.exc K fs xs st : R α).V Q X = X K fs xs st := rfl
@[scoped simp, scoped simp↓] theorem W_bnd (r : R β) (k : β → Sto → R α) : (r.bnd k).V Q X = r.V (fun a st1 => (k a st1).V Q X) X := by cases r <;> rfl
@[scoped simp, scoped simp↓] theorem W_ite (c : Prop) [Decidable c] (a b : R α) : (if c then a else b).V Q X = dIf c (a.V Q X) (b.V Q X) := by by_cases h : c <;> simp [h]
@[scoped simp, scoped simp↓] theorem S_nx (e : Env) (st : Sto) : (RS.ok (.nx e) st).V N T B C Y = N e st := rfl
@[scoped simp, scoped simp↓] theorem S_rt (d : D) (st : Sto) : (RS.ok (.rt d) st).V N T B C Y = T d st := rfl
@[scoped simp, scoped simp↓] theorem S_bk (e : Env) (st : Sto) : (RS.ok (.bk e) st).V N T B C Y = B e st := rfl
@[scoped simp, scoped simp↓] theorem S_ct (e : Env) (st : Sto) : (RS.ok (.ct e) st).V N T B C Y = C e st := rfl
@[scoped simp, scoped simp↓] theorem S_exc (K : String) (fs : List String) (xs : List D) (e : Env) (st : Sto) : (RS.exc K fs xs e st).V N T B C Y = Y K fs xs e st := rfl
@[scoped simp, scoped simp↓] theorem S_bad : RS.bad.V N T B C Y = False := rfl
@[scoped simp, scoped simp↓] theorem S_ite (c : Prop) [Decidable c] (a b : RS) : (if c then a else b).V N T B C Y = dIf c (a.V N T B C Y) (b.V N T B C Y) := by by_cases h : c <;> simp [h]
@[scoped simp, scoped simp↓] theorem S_st (r : R α) (env : Env) (k : α → Sto → RS) : (r.st env k).V N T B C Y = r.V (fun a st1 => (k a st1).V N T B C Y) (fun K fs xs st1 => Y K fs xs env st1) := by cases r <;> rfl
end
/-! expressions -/
section
variable (env : Env) (st : Sto) {Q : D → Sto → Prop} {QA : List D → Sto → Prop} {QT : Bool → Sto → Prop} {QO : Option Int → Sto → Prop} {X : XP}
@[scoped simp] theorem view_refS (n : Nat) : view st (.ref n) = match st[n]? with
  | some (.lst xs) => .lst xs
  | _ => .ref n := rfl
@[scoped simp, scoped simp↓] theorem w_eVar (i : Nat) : (eVar i env st).V Q X = ((match env[i]? with
  | some (some d) => .ok d st
  | _ => .bad : R D)).V Q X := rfl
@[scoped simp, scoped simp↓] theorem w_eC (d : D) : (eC d env st).V Q X = Q d st := rfl
@[scoped simp, scoped simp↓] theorem w_eU (f : D → Option D) (a : Ex) : (eU f a env st).V Q X = (a env st).V (fun x st1 => (R.of (f (view st1 x)) st1).V Q X) X := by simp only [eU_ap, W_bnd]
@[scoped simp, scoped simp↓] theorem w_eB (f : D → D → Option D) (a b : Ex) : (eB f a b env st).V Q X = (a env st).V (fun x st1 => (b env st1).V (fun y st2 => (R.of (f (view st2 x) (view st2 y)) st2).V Q X) X) X := by simp only [eB_ap, W_bnd]
@[scoped simp, scoped simp↓] theorem w_eCh (f g : D → D → Option D) (a b c : Ex) : (eCh f g a b c env st).V Q X = (a env st).V (fun x st1 => (b env st1).V (fun y st2 => (R.of (f (view st2 x) (view st2 y)) st2).V (fun t st2 => match t with
  | .bl u => dIf (u = true) ((c env st2).V (fun z st3 => (R.of (g (view st3 y) (view st3 z)) st3).V Q X) X) (Q (.bl false) st2)
  | _ => False) X) X) X := by
  simp only [eCh_ap, W_bnd]
  congr 1; funext x st1; congr 1; funext y st2
  cases h : f (view st2 x) (view st2 y) with
  | none => rfl
  | some d =>
    cases d with
    | bl b => cases b <;> simp
    | _ => rfl
@[scoped simp, scoped simp↓] theorem w_eAnd (a b : Ex) : (eAnd a b env st).V Q X = (a env st).V (fun x st1 => match x with
  | .bl u => dIf (u = true) ((b env st1).V Q X) (Q (.bl false) st1)
  | _ => False) X := by
  simp only [eAnd_ap, W_bnd]
  congr 1; funext x st1
  cases x with
  | bl b => cases b <;> simp
  | _ => rfl
@[scoped simp, scoped simp↓] theorem w_eOr (a b : Ex) : (eOr a b env st).V Q X = (a env st).V (fun x st1 => match x with
  | .bl u => dIf (u = true) (Q (.bl true) st1) ((b env st1).V Q X)
  | _ => False) X := by
  simp only [eOr_ap, W_bnd]
  congr 1; funext x st1
  cases x with
  | bl b => cases b <;> simp
  | _ => rfl
@[scoped simp, scoped simp↓] theorem w_eNot (a : Ex) : (eNot a env st).V Q X = (a env st).V (fun x st1 => match x with
  | .bl u => Q (.bl (!u)) st1
  | _ => False) X := by
  simp only [eNot_ap, W_bnd]
  congr 1; funext x st1
  cases x <;> rfl
@[scoped simp, scoped simp↓] theorem w_eIf (c : Tx) (a b : Ex) : (eIf c a b env st).V Q X = (c env st).V (fun t st1 => dIf (t = true) ((a env st1).V Q X) ((b env st1).V Q X)) X := by
  simp only [eIf_ap, W_bnd, W_ite]
@[scoped simp, scoped simp↓] theorem w_aNil : (aNil env st).V QA X = QA [] st := rfl
@[scoped simp, scoped simp↓] theorem w_aCons (a : Ex) (as : Ax) : (aCons a as env st).V QA X = (a env st).V (fun x st1 => (as env st1).V (fun xs st2 => QA (x :: xs) st2) X) X := by simp only [aCons_ap, W_bnd, W_ok]
@[scoped simp, scoped simp↓] theorem w_aStar (a : Ex) (as : Ax) : (aStar a as env st).V QA X = (a env st).V (fun x st1 => match x with
  | .lst xs => (as env st1).V (fun ys st2 => QA (xs ++ ys) st2) X
  | .tup xs => (as env st1).V (fun ys st2 => QA (xs ++ ys) st2) X
  | .scr xs => (as env st1).V (fun ys st2 => QA (xs ++ ys) st2) X
  | _ => False) X := by
  simp only [aStar_ap, W_bnd]
  congr 1; funext x st1
  cases x <;> simp
@[scoped simp, scoped simp↓] theorem w_eTup (as : Ax) : (eTup as env st).V Q X = (as env st).V (fun xs st1 => xs.length ≤ 1000000 ∧ Q (.tup xs) st1) X := by
  simp only [eTup_ap, W_bnd, W_ite, W_ok, W_bad, dIf]
  congr 1; funext xs st1
  by_cases h : xs.length ≤ 1000000 <;> simp [h]
@[scoped simp, scoped simp↓] theorem w_eLst (as : Ax) : (eLst as env st).V Q X = (as env st).V (fun xs st1 => xs.length ≤ 1000000 ∧ Q (.lst xs) st1) X := by
  simp only [eLst_ap, W_bnd, W_ite, W_ok, W_bad, dIf]
  congr 1; funext xs st1
  by_cases h : xs.length ≤ 1000000 <;> simp [h]
@[scoped simp, scoped simp↓] theorem w_eLstL (as : Ax) : (eLstL as env st).V Q X = (as env st).V (fun xs st1 => (xs.length ≤ 1000000 ∧ D.gnds xs = true) ∧ Q (.ref st1.length) (st1 ++ [.lst xs])) X := by
  simp only [eLstL_ap, W_bnd, W_ite, W_ok, W_bad, dIf]
  congr 1; funext xs st1
  by_cases h : xs.length ≤ 1000000 ∧ D.gnds xs = true <;> simp [h]
@[scoped simp, scoped simp↓] theorem w_eCall (F : Fn) (as : Ax) : (eCall F as env st).V Q X = (as env st).V (fun xs st1 => (F xs st1).V Q X) X := by simp only [eCall_ap, W_bnd]
@[scoped simp, scoped simp↓] theorem w_eCallG (F : Fn) (g : List D → List D → List D) (as ak : Ax) : (eCallG F g as ak env st).V Q X = (as env st).V (fun xs st1 => (ak env st1).V (fun ys st2 => (F (g xs ys) st2).V Q X) X) X := by simp only [eCallG_ap, W_bnd]
@[scoped simp, scoped simp↓] theorem w_eMake (C : String) (F : Fn) (g : List D → List D → List D) (as ak : Ax) : (eMake C F g as ak env st).V Q X = (as env st).V (fun xs st1 => (ak env st1).V (fun ys st2 => (mkD C F (g xs ys) st2).V Q X) X) X := by simp only [eMake_ap, W_bnd]
@[scoped simp, scoped simp↓] theorem w_eSl (a : Ex) (lo hi : Env → Sto → R (Option Int)) : (eSl a lo hi env st).V Q X = (a env st).V (fun x st1 => (lo env st1).V (fun l st2 => (hi env st2).V (fun h st3 => (R.of (oSl (view st3 x) l h) st3).V Q X) X) X) X := by simp only [eSl_ap, W_bnd]
@[scoped simp, scoped simp↓] theorem w_pNone : (pNone env st).V QO X = QO none st := rfl
@[scoped simp, scoped simp↓] theorem w_pSome (a : Ex) : (pSome a env st).V QO X = (a env st).V (fun x st1 => match x with
  | .int i => QO (some i) st1
  | _ => False) X := by
  simp only [pSome_ap, W_bnd]
  congr 1; funext x st1
  cases x <;> rfl
@[scoped simp, scoped simp↓] theorem w_eC1 (f : List D → Option D) (as : Ax) : (eC1 f as env st).V Q X = (as env st).V (fun xs st1 => (R.of (f (xs.map (view st1))) st1).V Q X) X := by simp only [eC1_ap, W_bnd]
@[scoped simp, scoped simp↓] theorem w_eFld (P : Pg) (a : Ex) (f : String) : (eFld P a f env st).V Q X = (a env st).V (fun x st1 => ((match x with
  | .obj C fs xs => R.of (attrD P C f fs xs) st1
  | .exn _ _ _ => .bad
  | .ref n => (match st1[n]? with
    | some (.ins C fs xs) => R.of (attrD P C f fs xs) st1
    | _ => .bad)
  | _ => .bad : R D)).V Q X) X := by
  simp only [eFld_ap, W_bnd]
  all_goals rfl
@[scoped simp, scoped simp↓] theorem w_eAddL (a b : Ex) : (eAddL a b env st).V Q X = (a env st).V (fun x st1 => (b env st1).V (fun y st2 => match view st2 x, view st2 y with
  | .lst xs, .lst ys => (xs.length + ys.length ≤ 1000000 ∧ D.gnds xs = true ∧ D.gnds ys = true) ∧ Q (.ref st2.length) (st2 ++ [.lst (xs ++ ys)])
  | _, _ => False) X) X := by
  simp only [eAddL_ap, W_bnd]
  congr 1; funext x st1; congr 1; funext y st2
  generalize view st2 x = vx
  generalize view st2 y = vy
  cases vx <;> first
    | rfl
    | (cases vy <;> first
        | rfl
        | (rename_i xs ys
           dsimp only
           by_cases h : xs.length + ys.length ≤ 1000000 ∧ D.gnds xs = true ∧ D.gnds ys = true
           · simp only [h, and_self, if_true, W_ok, true_and]
           · simp only [h, if_false, W_bad, false_and]))
@[scoped simp, scoped simp↓] theorem w_eLc (src : Ax) (g : Gx) (own : List Nat) (c : Tx) (e : Ex) : (eLc src g own c e env st).V Q X = (src env st).V (fun ds st1 => (lcL g c e st1.length ds (wipeE env own) (st1 ++ [.lst []])).V (fun xs st2 => Q (.lst xs) (st2.take st1.length)) X) X := by simp only [eLc_ap, W_bnd, W_ok]
@[scoped simp, scoped simp↓] theorem w_eLcL (src : Ax) (g : Gx) (own : List Nat) (c : Tx) (e : Ex) : (eLcL src g own c e env st).V Q X = (src env st).V (fun ds st1 => (lcL g c e st1.length ds (wipeE env own) (st1 ++ [.lst []])).V (fun _ st2 => Q (.ref st1.length) (st2.take (st1.length + 1))) X) X := by simp only [eLcL_ap, W_bnd, W_ok]
@[scoped simp, scoped simp↓] theorem w_ePrp (C : String) (F : Fn) (a : Ex) : (ePrp C F a env st).V Q X = (a env st).V (fun x st1 => match x with
  | .obj C' fs xs => dIf (C' = C) ((F [.obj C' fs xs] st1).V Q NX) False
  | _ => False) X := by
  unfold ePrp
  simp only [W_bnd]
  congr 1; funext x st1
  cases x <;> try rfl
  rename_i C' fs xs
  dsimp only
  by_cases h : C' = C
  · rw [if_pos h]
    simp only [h, dIf_true]
    cases F [.obj C fs xs] st1 <;> rfl
  · rw [if_neg h]
    simp only [h, dIf_false]
    rfl
@[scoped simp, scoped simp↓] theorem w_eBad : (eBad env st).V Q X = False := rfl
/-! tests -/
@[scoped simp, scoped simp↓] theorem w_tB (a : Ex) : (tB a env st).V QT X = (a env st).V (fun x st1 => match x with
  | .bl b => QT b st1
  | _ => False) X := by
  simp only [tB_ap, W_bnd]
  congr 1; funext x st1
  cases x <;> rfl
@[scoped simp, scoped simp↓] theorem w_tAnd (a b : Tx) : (tAnd a b env st).V QT X = (a env st).V (fun x st1 => dIf (x = true) ((b env st1).V QT X) (QT false st1)) X := by simp only [tAnd_ap, W_bnd, W_ite, W_ok]
@[scoped simp, scoped simp↓] theorem w_tOr (a b : Tx) : (tOr a b env st).V QT X = (a env st).V (fun x st1 => dIf (x = true) (QT true st1) ((b env st1).V QT X)) X := by simp only [tOr_ap, W_bnd, W_ite, W_ok]
@[scoped simp, scoped simp↓] theorem w_tNot (a : Tx) : (tNot a env st).V QT X = (a env st).V (fun x st1 => QT (!x) st1) X := by simp only [tNot_ap, W_bnd, W_ok]
@[scoped simp, scoped simp↓] theorem w_tYes : (tYes env st).V QT X = QT true st := rfl
/-! iterations -/
@[scoped simp, scoped simp↓] theorem w_iAny (a : Ex) : (iAny a env st).V QA X = (a env st).V (fun x st1 => match x with
  | .lst xs => QA xs st1
  | .scr xs => QA xs st1
  | .tup xs => QA xs st1
  | .str z => QA (z.cps.toList.map fun c => D.str ⟨#[c]⟩) st1
  | _ => False) X := by
  simp only [iAny_ap, W_bnd]
  congr 1; funext x st1
  cases x <;> rfl
@[scoped simp, scoped simp↓] theorem w_iEnum (a : Ex) : (iEnum a env st).V QA X = (a env st).V (fun x st1 => match x with
  | .lst xs => QA (enumD 0 xs) st1
  | .tup xs => QA (enumD 0 xs) st1
  | _ => False) X := by
  simp only [iEnum_ap, W_bnd]
  congr 1; funext x st1
  cases x <;> rfl
@[scoped simp, scoped simp↓] theorem w_iRng1 (as : Ax) : (iRng1 as env st).V QA X = (as env st).V (fun xs st1 => match xs with
  | [.int j] => (-1000000 ≤ j ∧ j ≤ 1000000) ∧ QA (rgD 0 j) st1
  | _ => False) X := by
  simp only [iRng1_ap, W_bnd]
  congr 1; funext x st1
  by_cases hx : ∃ j, x = [.int j]
  · obtain ⟨j, rfl⟩ := hx
    dsimp only
    by_cases h : -1000000 ≤ j ∧ j ≤ 1000000
    · simp only [h, and_self, if_true, W_ok, true_and]
    · simp only [h, if_false, W_bad, false_and]
  · (repeat' split) <;> first | rfl | exact absurd ⟨_, rfl⟩ hx
@[scoped simp, scoped simp↓] theorem w_iRng2 (as : Ax) : (iRng2 as env st).V QA X = (as env st).V (fun xs st1 => match xs with
  | [.int i, .int j] => (-1000000 ≤ i ∧ i ≤ 1000000 ∧ -1000000 ≤ j ∧ j ≤ 1000000) ∧ QA (rgD i j) st1
  | _ => False) X := by
  simp only [iRng2_ap, W_bnd]
  congr 1; funext x st1
  by_cases hx : ∃ i j, x = [.int i, .int j]
  · obtain ⟨i, j, rfl⟩ := hx
    dsimp only
    by_cases h : -1000000 ≤ i ∧ i ≤ 1000000 ∧ -1000000 ≤ j ∧ j ≤ 1000000
    · simp only [h, and_self, if_true, W_ok, true_and]
    · simp only [h, if_false, W_bad, false_and]
  · (repeat' split) <;> first | rfl | exact absurd ⟨_, _, rfl⟩ hx
@[scoped simp, scoped simp↓] theorem w_iRng3 (as : Ax) : (iRng3 as env st).V QA X = (as env st).V (fun xs st1 => match xs with
  | [.int i, .int j, .int k] => (0 < k ∧ k ≤ 1000 ∧ -1000000 ≤ i ∧ i ≤ 1000000 ∧ -1000000 ≤ j ∧ j ≤ 1000000) ∧ QA (rg3D i j k) st1
  | _ => False) X := by
  simp only [iRng3_ap, W_bnd]
  congr 1; funext x st1
  by_cases hx : ∃ i j k, x = [.int i, .int j, .int k]
  · obtain ⟨i, j, k, rfl⟩ := hx
    dsimp only
    by_cases h : 0 < k ∧ k ≤ 1000 ∧ -1000000 ≤ i ∧ i ≤ 1000000 ∧ -1000000 ≤ j ∧ j ≤ 1000000
    · simp only [h, and_self, if_true, W_ok, true_and]
    · simp only [h, if_false, W_bad, false_and]
  · (repeat' split) <;> first | rfl | exact absurd ⟨_, _, _, rfl⟩ hx
end
/-! statements -/
section
variable (env : Env) (st : Sto) {N : Env → Sto → Prop} {T : D → Sto → Prop} {B C : Env → Sto → Prop} {Y : XQ}
@[scoped simp, scoped simp↓] theorem s_nil : (sNil env st).V N T B C Y = N env st := rfl
@[scoped simp, scoped simp↓] theorem s_seq (a b : Sx) : (sSeq a b env st).V N T B C Y = (a env st).V (fun env1 st1 => (b env1 st1).V N T B C Y) T B C Y := by
  rw [sSeq_ap]
  cases a env st with
  | ok f s => cases f <;> rfl
  | exc K fs xs e s => rfl
  | bad => rfl
@[scoped simp, scoped simp↓] theorem s_if (c : Tx) (a b : Sx) : (sIf c a b env st).V N T B C Y = (c env st).V (fun t st1 => dIf (t = true) ((a env st1).V N T B C Y) ((b env st1).V N T B C Y)) (fun K fs xs st1 => Y K fs xs env st1) := by simp only [sIf_ap, S_st, S_ite]
@[scoped simp, scoped simp↓] theorem s_ret (a : Ex) : (sRet a env st).V N T B C Y = (a env st).V T (fun K fs xs st1 => Y K fs xs env st1) := by simp only [sRet_ap, S_st, S_rt]
@[scoped simp, scoped simp↓] theorem s_break : (sBreak env st).V N T B C Y = B env st := rfl
@[scoped simp, scoped simp↓] theorem s_cont : (sCont env st).V N T B C Y = C env st := rfl
@[scoped simp, scoped simp↓] theorem s_drop (a : Ex) : (sDrop a env st).V N T B C Y = (a env st).V (fun _ st1 => N env st1) (fun K fs xs st1 => Y K fs xs env st1) := by simp only [sDrop_ap, S_st, S_nx]
@[scoped simp, scoped simp↓] theorem s_asg (a : Ex) (g : Gx) : (sAsg a g env st).V N T B C Y = (a env st).V (fun d st1 => match g d env with
  | some env1 => N env1 st1
  | none => False) (fun K fs xs st1 => Y K fs xs env st1) := by
  simp only [sAsg_ap, S_st]
  congr 1; funext d st1
  cases g d env <;> rfl
@[scoped simp, scoped simp↓] theorem s_asgN (a : Ex) (i : Nat) : (sAsg a (gName i) env st).V N T B C Y = (a env st).V (fun d st1 => N (env.set i (some d)) st1) (fun K fs xs st1 => Y K fs xs env st1) := by
  simp only [sAsg_ap, S_st, gName_ap, S_nx]
@[scoped simp, scoped simp↓] theorem s_frz (i : Nat) : (sFrz i env st).V N T B C Y = match env[i]? with
  | some (some (.ref n)) => (match st[n]? with
    | some (.lst xs) => N (env.set i (some (.lst xs))) (st.set n .dead)
    | _ => False)
  | _ => False := by
  simp only [sFrz_ap]
  generalize env[i]? = o
  rcases o with _ | _ | d <;> try rfl
  cases d <;> try rfl
  rename_i n
  dsimp only
  generalize st[n]? = q
  rcases q with _ | u <;> try rfl
  cases u <;> rfl
@[scoped simp, scoped simp↓] theorem s_fld (P : Pg) (i : Nat) (f : String) (a : Ex) : (sFld P i f a env st).V N T B C Y = (a env st).V (fun d st1 => match env[i]? with
  | some (some (.ref n)) => (match st1[n]? with
    | some (.ins K fs xs) => (d.gnd = true ∧ fs.length < 1000 ∧ f ∉ fs ∧ K ∈ P.own ∧ (K, f) ∈ P.fld) ∧ N env (st1.set n (.ins K (fs ++ [f]) (xs ++ [d])))
    | _ => False)
  | _ => False) (fun K fs xs st1 => Y K fs xs env st1) := by
  simp only [sFld_ap, S_st]
  congr 1; funext d st1
  generalize env[i]? = o
  rcases o with _ | _ | e <;> try rfl
  cases e <;> try rfl
  rename_i n
  dsimp only
  generalize hq : st1[n]? = q
  rcases q with _ | u <;> try rfl
  cases u <;> try rfl
  rename_i K fs xs
  dsimp only
  by_cases h : d.gnd = true ∧ fs.length < 1000 ∧ f ∉ fs ∧ K ∈ P.own ∧ (K, f) ∈ P.fld
  · rw [if_pos h, S_nx]; simp only [h, not_false_eq_true, and_self, true_and]
  · rw [if_neg h, S_bad]; simp only [h, false_and]
@[scoped simp, scoped simp↓] theorem s_app (i : Nat) (a : Ex) : (sApp i a env st).V N T B C Y = match env[i]? with
  | some (some (.ref n)) => (match st[n]? with
    | some (.lst _) => (a env st).V (fun d st1 => match st1[n]? with
      | some (.lst xs) => (d.gnd = true ∧ xs.length < 1000000) ∧ N env (st1.set n (.lst (xs ++ [d])))
      | _ => False) (fun K fs xs st1 => Y K fs xs env st1)
    | _ => False)
  | _ => False := by
  simp only [sApp_ap]
  generalize env[i]? = o
  rcases o with _ | _ | e <;> try rfl
  cases e <;> try rfl
  rename_i n
  dsimp only
  generalize hq : st[n]? = q
  rcases q with _ | u <;> try rfl
  cases u <;> try rfl
  dsimp only
  rw [S_st]
  congr 1; funext d st1
  generalize hq : st1[n]? = q
  rcases q with _ | u <;> try rfl
  cases u <;> try rfl
  rename_i xs
  dsimp only
  by_cases h : d.gnd = true ∧ xs.length < 1000000
  · rw [if_pos h, S_nx]; simp only [h, and_self, true_and]
  · rw [if_neg h, S_bad]; simp only [h, false_and]
@[scoped simp, scoped simp↓] theorem s_set (i : Nat) (k a : Ex) : (sSet i k a env st).V N T B C Y = (a env st).V (fun d st1 => match env[i]? with
  | some (some (.ref n)) => (k env st1).V (fun z st2 => match z with
    | .int j => (match st2[n]? with
      | some (.lst xs) => (match ixD xs.length j with
        | some q => d.gnd = true ∧ N env (st2.set n (.lst (xs.set q d)))
        | none => False)
      | _ => False)
    | _ => False) (fun K fs xs st1 => Y K fs xs env st1)
  | _ => False) (fun K fs xs st1 => Y K fs xs env st1) := by
  simp only [sSet_ap, S_st]
  congr 1; funext d st1
  generalize env[i]? = o
  rcases o with _ | _ | e <;> try rfl
  cases e <;> try rfl
  rename_i n
  dsimp only
  rw [S_st]
  congr 1; funext z st2
  cases z <;> try rfl
  rename_i j
  dsimp only
  generalize hq : st2[n]? = q
  rcases q with _ | u <;> try rfl
  cases u <;> try rfl
  rename_i xs
  dsimp only
  generalize ixD xs.length j = r
  rcases r with _ | q <;> try rfl
  dsimp only
  by_cases h : d.gnd = true
  · rw [if_pos h, S_nx]; simp only [h, true_and]
  · rw [if_neg h, S_bad]; simp [h]
@[scoped simp, scoped simp↓] theorem s_for (src : Ax) (g : Gx) (b : Sx) : (sFor src g b env st).V N T B C Y = (src env st).V (fun ds st1 => (forL g b ds env st1).V N T B C Y) (fun K fs xs st1 => Y K fs xs env st1) := by simp only [sFor_ap, S_st]
@[scoped simp, scoped simp↓] theorem s_bad : (sBad env st).V N T B C Y = False := rfl
@[scoped simp, scoped simp↓] theorem s_aug (i : Nat) (f : D → D → Option D) (a : Ex) : (sAug i f a env st).V N T B C Y = match env[i]? with
  | some (some x) => (a env st).V (fun y st1 => match f x y with
    | some z => N (env.set i (some z)) st1
    | none => False) (fun K fs xs st1 => Y K fs xs env st1)
  | _ => False := by
  unfold sAug
  generalize env[i]? = o
  rcases o with _ | _ | e <;> try rfl
  dsimp only
  rw [S_st]
  congr 1; funext y st1
  generalize f e y = r
  cases r <;> rfl
@[scoped simp, scoped simp↓] theorem s_raise (K : String) (fs : List String) (ok : List D → Bool) (as : Ax) : (sRaise K fs ok as env st).V N T B C Y = (as env st).V (fun ds st1 => (ds.length = fs.length ∧ D.gnds ds = true ∧ ok ds = true) ∧ Y K fs ds env st1) (fun K fs xs st1 => Y K fs xs env st1) := by
  unfold sRaise
  rw [S_st]
  congr 1; funext ds st1
  by_cases h : ds.length = fs.length ∧ D.gnds ds = true ∧ ok ds = true
  · rw [if_pos h, S_exc]; simp only [h, and_self, true_and]
  · rw [if_neg h, S_bad]; simp only [h, false_and]
@[scoped simp, scoped simp↓] theorem s_try (b : Sx) (sub : String → Option Bool) (i : Nat) (s : Sx) : (sTry b sub i s env st).V N T B C Y = (b env st).V N T B C (fun K fs xs env1 st1 => match sub K with
    | some true => (s (env1.set i (some (.exn K fs xs))) st1).V NB (fun d s => d.gnd = true ∧ T d s) NB NB (fun _ _ _ _ _ => False)
    | some false => Y K fs xs env1 st1
    | none => False) := by
  unfold sTry
  cases b env st with
  | ok f s => cases f <;> rfl
  | bad => rfl
  | exc K fs xs env1 st1 =>
    dsimp only
    generalize hk : sub K = o
    rcases o with _ | _ | _
    · simp only [S_exc, hk]
      rfl
    · simp only [S_exc, hk]
    · simp only [S_exc, hk]
      cases s (env1.set i (some (.exn K fs xs))) st1 with
      | ok f s =>
        cases f with
        | rt d =>
          dsimp only
          by_cases h : d.gnd = true
          · rw [if_pos h]
            exact propext ⟨fun z => ⟨h, z⟩, fun z => z.2⟩
          · rw [if_neg h]
            exact propext ⟨fun z => z.elim, fun z => absurd z.1 h⟩
        | _ => rfl
      | exc K fs xs e s => rfl
      | bad => rfl
end
/-! functions -/
theorem w_fnS {fin : Nat → D → Sto → R D} {n slots : Nat} {b : Sx} {ds : List D} {st : Sto} {Q : D → Sto → Prop} {X : XP} (h : ds.length = n) : (fnS fin n slots b ds st).V Q X = (b (ds.map some ++ List.replicate (slots - n) none) st).V (fun _ st1 => (fin st.length .non st1).V Q X) (fun d st1 => (fin st.length d st1).V Q X) NB NB (fun K fs xs _ st1 => X K fs xs (st1.take st.length)) := by
  rw [fnS_ap, if_pos h]
  cases b (ds.map some ++ List.replicate (slots - n) none) st with
  | ok f s => cases f <;> rfl
  | exc K fs xs e s => rfl
  | bad => rfl
theorem fn_W {fin : Nat → D → Sto → R D} {n slots : Nat} {b : Sx} {ds : List D} {st : Sto} {Q : D → Sto → Prop} {X : XP} (h : ds.length = n) (k : (b (ds.map some ++ List.replicate (slots - n) none) st).V (fun _ st1 => (fin st.length .non st1).V Q X) (fun d st1 => (fin st.length d st1).V Q X) NB NB (fun K fs xs _ st1 => X K fs xs (st1.take st.length))) : (fnS fin n slots b ds st).V Q X := (w_fnS h).symm ▸ k
theorem mk_W {C : String} {F : Fn} {ds : List D} {st : Sto} {Q : D → Sto → Prop} {X : XP} (h : (F (.ref st.length :: ds) (st ++ [.ins C [] []])).V (fun r st2 => r = .non ∧ ∃ fs ys, st2[st.length]? = some (.ins C fs ys) ∧ Q (.obj C fs ys) (st2.take st.length)) (fun K fs xs st2 => X K fs xs (st2.take st.length))) : (mkD C F ds st).V Q X := by
  unfold mkD
  cases hF : F (.ref st.length :: ds) (st ++ [.ins C [] []]) with
  | ok r st2 =>
    rw [hF] at h
    obtain ⟨rfl, fs, ys, e, q⟩ := h
    simp only [e, if_true, W_ok]
    exact q
  | exc K fs xs st2 =>
    rw [hF] at h
    exact h
  | bad =>
    rw [hF] at h
    exact h
@[scoped simp] theorem finR_gndS {b : Nat} {d : D} {st : Sto} (h : d.gnd = true) : finR b d st = .ok d (st.take b) := finR_gnd h
end Vv
namespace Wm
/-- keeps simp out of what comes later -/
structure _root_.Cb.Tg {β γ : Sort _} (q : β) (x : γ) : Type where
@[irreducible] def _root_.Cb.R.W {α : Type} (r : R α) (Q : α → Sto → Prop) (X : XP) (_ : Tg Q X := ⟨⟩) : Prop := r.V Q X
@[irreducible] def _root_.Cb.RS.W (r : RS) (N : Env → Sto → Prop) (T : D → Sto → Prop) (B C : Env → Sto → Prop) (X : XQ) (_ : Tg (N, T, B) (C, X) := ⟨⟩) : Prop := r.V N T B C X
/-- a test whose outcome is open -/
def _root_.Cb.cIf (c : Prop) (p q : Prop) (_ : Tg p q := ⟨⟩) : Prop := (c → p) ∧ (¬ c → q)
section
variable {α β : Type} {Q Q' : α → Sto → Prop} {X X' : XP} {N N' : Env → Sto → Prop} {T T' : D → Sto → Prop} {B B' C C' : Env → Sto → Prop} {Y Y' : XQ}
@[scoped simp] theorem cIf_true (p q : Prop) : cIf True p q = p := by delta R.W RS.W cIf; exact Vv.dIf_true ..
@[scoped simp] theorem cIf_false (p q : Prop) : cIf False p q = q := by delta R.W RS.W cIf; exact Vv.dIf_false ..
theorem _root_.Cb.R.W.imp {r : R α} (h : r.W Q X) (k : ∀ a st, Q a st → Q' a st) (kx : ∀ K fs xs st, X K fs xs st → X' K fs xs st) : r.W Q' X' := by delta R.W at h ⊢; exact R.V.imp h k kx
theorem _root_.Cb.R.W.to {r : R α} (h : r.W Q NX) (k : ∀ a st, Q a st → Q' a st) : r.W Q' X' := by delta R.W at h ⊢; exact R.V.to h k
theorem _root_.Cb.RS.W.imp {r : RS} (h : r.W N T B C Y) (kn : ∀ e st, N e st → N' e st) (kt : ∀ d st, T d st → T' d st) (kb : ∀ e st, B e st → B' e st) (kc : ∀ e st, C e st → C' e st) (kx : ∀ K fs xs e st, Y K fs xs e st → Y' K fs xs e st) : r.W N' T' B' C' Y' := by delta RS.W at h ⊢; exact RS.V.imp h kn kt kb kc kx
theorem W_eq {r : R α} {a : α} {st : Sto} (h : r.W (fun b s => b = a ∧ s = st) NX) : r = .ok a st := by delta R.W at h; exact Vv.W_eq h
theorem W_ex {r : R α} {a : α} (h : r.W (fun b _ => b = a) NX) : ∃ st, r = .ok a st := by delta R.W at h; exact Vv.W_ex h
theorem W_get {r : R α} (h : r.W Q NX) : ∃ a st, r = .ok a st ∧ Q a st := by delta R.W at h; exact Vv.W_get h
@[scoped simp, scoped simp↓] theorem W_ok (a : α) (st : Sto) : (R.ok a st).W Q X = Q a st := by delta R.W RS.W cIf; exact Vv.W_ok ..
@[scoped simp, scoped simp↓] theorem W_bad : (R.bad : R α).W Q X = False := by delta R.W RS.W cIf; exact Vv.W_bad ..
@[scoped simp, scoped simp↓] theorem W_exc (K : String) (fs : List String) (xs : List D) (st : Sto) : (R.exc K fs xs st : R α).W Q X = X K fs xs st := by delta R.W RS.W cIf; exact Vv.W_exc ..
@[scoped simp, scoped simp↓] theorem W_bnd (r : R β) (k : β → Sto → R α) : (r.bnd k).W Q X = r.W (fun a st1 => (k a st1).W Q X) X := by delta R.W RS.W cIf; exact Vv.W_bnd ..
@[scoped simp, scoped simp↓] theorem W_ite (c : Prop) [Decidable c] (a b : R α) : (if c then a else b).W Q X = cIf c (a.W Q X) (b.W Q X) := by delta R.W RS.W cIf; exact Vv.W_ite ..
@[scoped simp, scoped simp↓] theorem S_nx (e : Env) (st : Sto) : (RS.ok (.nx e) st).W N T B C Y = N e st := by delta R.W RS.W cIf; exact Vv.S_nx ..
@[scoped simp, scoped simp↓] theorem S_rt (d : D) (st : Sto) : (RS.ok (.rt d) st).W N T B C Y = T d st := by delta R.W RS.W cIf; exact Vv.S_rt ..
@[scoped simp, scoped simp↓] theorem S_bk (e : Env) (st : Sto) : (RS.ok (.bk e) st).W N T B C Y = B e st := by delta R.W RS.W cIf; exact Vv.S_bk ..
@[scoped simp, scoped simp↓] theorem S_ct (e : Env) (st : Sto) : (RS.ok (.ct e) st).W N T B C Y = C e st := by delta R.W RS.W cIf; exact Vv.S_ct ..
@[scoped simp, scoped simp↓] theorem S_exc (K : String) (fs : List String) (xs : List D) (e : Env) (st : Sto) : (RS.exc K fs xs e st).W N T B C Y = Y K fs xs e st := by delta R.W RS.W cIf; exact Vv.S_exc ..
@[scoped simp, scoped simp↓] theorem S_bad : RS.bad.W N T B C Y = False := by delta R.W RS.W cIf; exact Vv.S_bad ..
@[scoped simp, scoped simp↓] theorem S_ite (c : Prop) [Decidable c] (a b : RS) : (if c then a else b).W N T B C Y = cIf c (a.W N T B C Y) (b.W N T B C Y) := by delta R.W RS.W cIf; exact Vv.S_ite ..
@[scoped simp, scoped simp↓] theorem S_st (r : R α) (env : Env) (k : α → Sto → RS) : (r.st env k).W N T B C Y = r.W (fun a st1 => (k a st1).W N T B C Y) (fun K fs xs st1 => Y K fs xs env st1) := by delta R.W RS.W cIf; exact Vv.S_st ..
end
/-! expressions -/
section
variable (env : Env) (st : Sto) {Q : D → Sto → Prop} {QA : List D → Sto → Prop} {QT : Bool → Sto → Prop} {QO : Option Int → Sto → Prop} {X : XP}
@[scoped simp, scoped simp↓] theorem w_eVar (i : Nat) : (eVar i env st).W Q X = ((match env[i]? with
  | some (some d) => .ok d st
  | _ => .bad : R D)).W Q X := by delta R.W RS.W cIf; exact Vv.w_eVar ..
@[scoped simp, scoped simp↓] theorem w_eC (d : D) : (eC d env st).W Q X = Q d st := by delta R.W RS.W cIf; exact Vv.w_eC ..
@[scoped simp, scoped simp↓] theorem w_eU (f : D → Option D) (a : Ex) : (eU f a env st).W Q X = (a env st).W (fun x st1 => (R.of (f (view st1 x)) st1).W Q X) X := by delta R.W RS.W cIf; exact Vv.w_eU ..
@[scoped simp, scoped simp↓] theorem w_eB (f : D → D → Option D) (a b : Ex) : (eB f a b env st).W Q X = (a env st).W (fun x st1 => (b env st1).W (fun y st2 => (R.of (f (view st2 x) (view st2 y)) st2).W Q X) X) X := by delta R.W RS.W cIf; exact Vv.w_eB ..
@[scoped simp, scoped simp↓] theorem w_eCh (f g : D → D → Option D) (a b c : Ex) : (eCh f g a b c env st).W Q X = (a env st).W (fun x st1 => (b env st1).W (fun y st2 => (R.of (f (view st2 x) (view st2 y)) st2).W (fun t st2 => match t with
  | .bl u => cIf (u = true) ((c env st2).W (fun z st3 => (R.of (g (view st3 y) (view st3 z)) st3).W Q X) X) (Q (.bl false) st2)
  | _ => False) X) X) X := by delta R.W RS.W cIf; exact Vv.w_eCh ..
@[scoped simp, scoped simp↓] theorem w_eAnd (a b : Ex) : (eAnd a b env st).W Q X = (a env st).W (fun x st1 => match x with
  | .bl u => cIf (u = true) ((b env st1).W Q X) (Q (.bl false) st1)
  | _ => False) X := by delta R.W RS.W cIf; exact Vv.w_eAnd ..
@[scoped simp, scoped simp↓] theorem w_eOr (a b : Ex) : (eOr a b env st).W Q X = (a env st).W (fun x st1 => match x with
  | .bl u => cIf (u = true) (Q (.bl true) st1) ((b env st1).W Q X)
  | _ => False) X := by delta R.W RS.W cIf; exact Vv.w_eOr ..
@[scoped simp, scoped simp↓] theorem w_eNot (a : Ex) : (eNot a env st).W Q X = (a env st).W (fun x st1 => match x with
  | .bl u => Q (.bl (!u)) st1
  | _ => False) X := by delta R.W RS.W cIf; exact Vv.w_eNot ..
@[scoped simp, scoped simp↓] theorem w_eIf (c : Tx) (a b : Ex) : (eIf c a b env st).W Q X = (c env st).W (fun t st1 => cIf (t = true) ((a env st1).W Q X) ((b env st1).W Q X)) X := by delta R.W RS.W cIf; exact Vv.w_eIf ..
@[scoped simp, scoped simp↓] theorem w_aNil : (aNil env st).W QA X = QA [] st := by delta R.W RS.W cIf; exact Vv.w_aNil ..
@[scoped simp, scoped simp↓] theorem w_aCons (a : Ex) (as : Ax) : (aCons a as env st).W QA X = (a env st).W (fun x st1 => (as env st1).W (fun xs st2 => QA (x :: xs) st2) X) X := by delta R.W RS.W cIf; exact Vv.w_aCons ..
@[scoped simp, scoped simp↓] theorem w_aStar (a : Ex) (as : Ax) : (aStar a as env st).W QA X = (a env st).W (fun x st1 => match x with
  | .lst xs => (as env st1).W (fun ys st2 => QA (xs ++ ys) st2) X
  | .tup xs => (as env st1).W (fun ys st2 => QA (xs ++ ys) st2) X
  | .scr xs => (as env st1).W (fun ys st2 => QA (xs ++ ys) st2) X
  | _ => False) X := by delta R.W RS.W cIf; exact Vv.w_aStar ..
@[scoped simp, scoped simp↓] theorem w_eTup (as : Ax) : (eTup as env st).W Q X = (as env st).W (fun xs st1 => xs.length ≤ 1000000 ∧ Q (.tup xs) st1) X := by delta R.W RS.W cIf; exact Vv.w_eTup ..
@[scoped simp, scoped simp↓] theorem w_eLst (as : Ax) : (eLst as env st).W Q X = (as env st).W (fun xs st1 => xs.length ≤ 1000000 ∧ Q (.lst xs) st1) X := by delta R.W RS.W cIf; exact Vv.w_eLst ..
@[scoped simp, scoped simp↓] theorem w_eLstL (as : Ax) : (eLstL as env st).W Q X = (as env st).W (fun xs st1 => (xs.length ≤ 1000000 ∧ D.gnds xs = true) ∧ Q (.ref st1.length) (st1 ++ [.lst xs])) X := by delta R.W RS.W cIf; exact Vv.w_eLstL ..
@[scoped simp, scoped simp↓] theorem w_eCall (F : Fn) (as : Ax) : (eCall F as env st).W Q X = (as env st).W (fun xs st1 => (F xs st1).W Q X) X := by delta R.W RS.W cIf; exact Vv.w_eCall ..
@[scoped simp, scoped simp↓] theorem w_eCallG (F : Fn) (g : List D → List D → List D) (as ak : Ax) : (eCallG F g as ak env st).W Q X = (as env st).W (fun xs st1 => (ak env st1).W (fun ys st2 => (F (g xs ys) st2).W Q X) X) X := by delta R.W RS.W cIf; exact Vv.w_eCallG ..
@[scoped simp, scoped simp↓] theorem w_eMake (C : String) (F : Fn) (g : List D → List D → List D) (as ak : Ax) : (eMake C F g as ak env st).W Q X = (as env st).W (fun xs st1 => (ak env st1).W (fun ys st2 => (mkD C F (g xs ys) st2).W Q X) X) X := by delta R.W RS.W cIf; exact Vv.w_eMake ..
@[scoped simp, scoped simp↓] theorem w_eSl (a : Ex) (lo hi : Env → Sto → R (Option Int)) : (eSl a lo hi env st).W Q X = (a env st).W (fun x st1 => (lo env st1).W (fun l st2 => (hi env st2).W (fun h st3 => (R.of (oSl (view st3 x) l h) st3).W Q X) X) X) X := by delta R.W RS.W cIf; exact Vv.w_eSl ..
@[scoped simp, scoped simp↓] theorem w_pNone : (pNone env st).W QO X = QO none st := by delta R.W RS.W cIf; exact Vv.w_pNone ..
@[scoped simp, scoped simp↓] theorem w_pSome (a : Ex) : (pSome a env st).W QO X = (a env st).W (fun x st1 => match x with
  | .int i => QO (some i) st1
  | _ => False) X := by delta R.W RS.W cIf; exact Vv.w_pSome ..
@[scoped simp, scoped simp↓] theorem w_eC1 (f : List D → Option D) (as : Ax) : (eC1 f as env st).W Q X = (as env st).W (fun xs st1 => (R.of (f (xs.map (view st1))) st1).W Q X) X := by delta R.W RS.W cIf; exact Vv.w_eC1 ..
@[scoped simp, scoped simp↓] theorem w_eFld (P : Pg) (a : Ex) (f : String) : (eFld P a f env st).W Q X = (a env st).W (fun x st1 => ((match x with
  | .obj C fs xs => R.of (attrD P C f fs xs) st1
  | .exn _ _ _ => .bad
  | .ref n => (match st1[n]? with
    | some (.ins C fs xs) => R.of (attrD P C f fs xs) st1
    | _ => .bad)
  | _ => .bad : R D)).W Q X) X := by delta R.W RS.W cIf; exact Vv.w_eFld ..
@[scoped simp, scoped simp↓] theorem w_eAddL (a b : Ex) : (eAddL a b env st).W Q X = (a env st).W (fun x st1 => (b env st1).W (fun y st2 => match view st2 x, view st2 y with
  | .lst xs, .lst ys => (xs.length + ys.length ≤ 1000000 ∧ D.gnds xs = true ∧ D.gnds ys = true) ∧ Q (.ref st2.length) (st2 ++ [.lst (xs ++ ys)])
  | _, _ => False) X) X := by delta R.W RS.W cIf; exact Vv.w_eAddL ..
@[scoped simp, scoped simp↓] theorem w_eLc (src : Ax) (g : Gx) (own : List Nat) (c : Tx) (e : Ex) : (eLc src g own c e env st).W Q X = (src env st).W (fun ds st1 => (lcL g c e st1.length ds (wipeE env own) (st1 ++ [.lst []])).W (fun xs st2 => Q (.lst xs) (st2.take st1.length)) X) X := by delta R.W RS.W cIf; exact Vv.w_eLc ..
@[scoped simp, scoped simp↓] theorem w_eLcL (src : Ax) (g : Gx) (own : List Nat) (c : Tx) (e : Ex) : (eLcL src g own c e env st).W Q X = (src env st).W (fun ds st1 => (lcL g c e st1.length ds (wipeE env own) (st1 ++ [.lst []])).W (fun _ st2 => Q (.ref st1.length) (st2.take (st1.length + 1))) X) X := by delta R.W RS.W cIf; exact Vv.w_eLcL ..
@[scoped simp, scoped simp↓] theorem w_ePrp (C : String) (F : Fn) (a : Ex) : (ePrp C F a env st).W Q X = (a env st).W (fun x st1 => match x with
  | .obj C' fs xs => cIf (C' = C) ((F [.obj C' fs xs] st1).W Q NX) False
  | _ => False) X := by delta R.W RS.W cIf; exact Vv.w_ePrp ..
@[scoped simp, scoped simp↓] theorem w_eBad : (eBad env st).W Q X = False := by delta R.W RS.W cIf; exact Vv.w_eBad ..
/-! tests -/
@[scoped simp, scoped simp↓] theorem w_tB (a : Ex) : (tB a env st).W QT X = (a env st).W (fun x st1 => match x with
  | .bl b => QT b st1
  | _ => False) X := by delta R.W RS.W cIf; exact Vv.w_tB ..
@[scoped simp, scoped simp↓] theorem w_tAnd (a b : Tx) : (tAnd a b env st).W QT X = (a env st).W (fun x st1 => cIf (x = true) ((b env st1).W QT X) (QT false st1)) X := by delta R.W RS.W cIf; exact Vv.w_tAnd ..
@[scoped simp, scoped simp↓] theorem w_tOr (a b : Tx) : (tOr a b env st).W QT X = (a env st).W (fun x st1 => cIf (x = true) (QT true st1) ((b env st1).W QT X)) X := by delta R.W RS.W cIf; exact Vv.w_tOr ..
@[scoped simp, scoped simp↓] theorem w_tNot (a : Tx) : (tNot a env st).W QT X = (a env st).W (fun x st1 => QT (!x) st1) X := by delta R.W RS.W cIf; exact Vv.w_tNot ..
@[scoped simp, scoped simp↓] theorem w_tYes : (tYes env st).W QT X = QT true st := by delta R.W RS.W cIf; exact Vv.w_tYes ..
/-! iterations -/
@[scoped simp, scoped simp↓] theorem w_iAny (a : Ex) : (iAny a env st).W QA X = (a env st).W (fun x st1 => match x with
  | .lst xs => QA xs st1
  | .scr xs => QA xs st1
  | .tup xs => QA xs st1
  | .str z => QA (z.cps.toList.map fun c => D.str ⟨#[c]⟩) st1
  | _ => False) X := by delta R.W RS.W cIf; exact Vv.w_iAny ..
@[scoped simp, scoped simp↓] theorem w_iEnum (a : Ex) : (iEnum a env st).W QA X = (a env st).W (fun x st1 => match x with
  | .lst xs => QA (enumD 0 xs) st1
  | .tup xs => QA (enumD 0 xs) st1
  | _ => False) X := by delta R.W RS.W cIf; exact Vv.w_iEnum ..
@[scoped simp, scoped simp↓] theorem w_iRng1 (as : Ax) : (iRng1 as env st).W QA X = (as env st).W (fun xs st1 => match xs with
  | [.int j] => (-1000000 ≤ j ∧ j ≤ 1000000) ∧ QA (rgD 0 j) st1
  | _ => False) X := by delta R.W RS.W cIf; exact Vv.w_iRng1 ..
@[scoped simp, scoped simp↓] theorem w_iRng2 (as : Ax) : (iRng2 as env st).W QA X = (as env st).W (fun xs st1 => match xs with
  | [.int i, .int j] => (-1000000 ≤ i ∧ i ≤ 1000000 ∧ -1000000 ≤ j ∧ j ≤ 1000000) ∧ QA (rgD i j) st1
  | _ => False) X := by delta R.W RS.W cIf; exact Vv.w_iRng2 ..
@[scoped simp, scoped simp↓] theorem w_iRng3 (as : Ax) : (iRng3 as env st).W QA X = (as env st).W (fun xs st1 => match xs with
  | [.int i, .int j, .int k] => (0 < k ∧ k ≤ 1000 ∧ -1000000 ≤ i ∧ i ≤ 1000000 ∧ -1000000 ≤ j ∧ j ≤ 1000000) ∧ QA (rg3D i j k) st1
  | _ => False) X := by delta R.W RS.W cIf; exact Vv.w_iRng3 ..
end
/-! statements -/
section
variable (env : Env) (st : Sto) {N : Env → Sto → Prop} {T : D → Sto → Prop} {B C : Env → Sto → Prop} {Y : XQ}
@[scoped simp, scoped simp↓] theorem s_nil : (sNil env st).W N T B C Y = N env st := by delta R.W RS.W cIf; exact Vv.s_nil ..
@[scoped simp, scoped simp↓] theorem s_seq (a b : Sx) : (sSeq a b env st).W N T B C Y = (a env st).W (fun env1 st1 => (b env1 st1).W N T B C Y) T B C Y := by delta R.W RS.W cIf; exact Vv.s_seq ..
@[scoped simp, scoped simp↓] theorem s_if (c : Tx) (a b : Sx) : (sIf c a b env st).W N T B C Y = (c env st).W (fun t st1 => cIf (t = true) ((a env st1).W N T B C Y) ((b env st1).W N T B C Y)) (fun K fs xs st1 => Y K fs xs env st1) := by delta R.W RS.W cIf; exact Vv.s_if ..
@[scoped simp, scoped simp↓] theorem s_ret (a : Ex) : (sRet a env st).W N T B C Y = (a env st).W T (fun K fs xs st1 => Y K fs xs env st1) := by delta R.W RS.W cIf; exact Vv.s_ret ..
@[scoped simp, scoped simp↓] theorem s_break : (sBreak env st).W N T B C Y = B env st := by delta R.W RS.W cIf; exact Vv.s_break ..
@[scoped simp, scoped simp↓] theorem s_cont : (sCont env st).W N T B C Y = C env st := by delta R.W RS.W cIf; exact Vv.s_cont ..
@[scoped simp, scoped simp↓] theorem s_drop (a : Ex) : (sDrop a env st).W N T B C Y = (a env st).W (fun _ st1 => N env st1) (fun K fs xs st1 => Y K fs xs env st1) := by delta R.W RS.W cIf; exact Vv.s_drop ..
@[scoped simp, scoped simp↓] theorem s_asg (a : Ex) (g : Gx) : (sAsg a g env st).W N T B C Y = (a env st).W (fun d st1 => match g d env with
  | some env1 => N env1 st1
  | none => False) (fun K fs xs st1 => Y K fs xs env st1) := by delta R.W RS.W cIf; exact Vv.s_asg ..
@[scoped simp, scoped simp↓] theorem s_asgN (a : Ex) (i : Nat) : (sAsg a (gName i) env st).W N T B C Y = (a env st).W (fun d st1 => N (env.set i (some d)) st1) (fun K fs xs st1 => Y K fs xs env st1) := by delta R.W RS.W cIf; exact Vv.s_asgN ..
@[scoped simp, scoped simp↓] theorem s_frz (i : Nat) : (sFrz i env st).W N T B C Y = match env[i]? with
  | some (some (.ref n)) => (match st[n]? with
    | some (.lst xs) => N (env.set i (some (.lst xs))) (st.set n .dead)
    | _ => False)
  | _ => False := by delta R.W RS.W cIf; exact Vv.s_frz ..
@[scoped simp, scoped simp↓] theorem s_fld (P : Pg) (i : Nat) (f : String) (a : Ex) : (sFld P i f a env st).W N T B C Y = (a env st).W (fun d st1 => match env[i]? with
  | some (some (.ref n)) => (match st1[n]? with
    | some (.ins K fs xs) => (d.gnd = true ∧ fs.length < 1000 ∧ f ∉ fs ∧ K ∈ P.own ∧ (K, f) ∈ P.fld) ∧ N env (st1.set n (.ins K (fs ++ [f]) (xs ++ [d])))
    | _ => False)
  | _ => False) (fun K fs xs st1 => Y K fs xs env st1) := by delta R.W RS.W cIf; exact Vv.s_fld ..
@[scoped simp, scoped simp↓] theorem s_app (i : Nat) (a : Ex) : (sApp i a env st).W N T B C Y = match env[i]? with
  | some (some (.ref n)) => (match st[n]? with
    | some (.lst _) => (a env st).W (fun d st1 => match st1[n]? with
      | some (.lst xs) => (d.gnd = true ∧ xs.length < 1000000) ∧ N env (st1.set n (.lst (xs ++ [d])))
      | _ => False) (fun K fs xs st1 => Y K fs xs env st1)
    | _ => False)
  | _ => False := by delta R.W RS.W cIf; exact Vv.s_app ..
@[scoped simp, scoped simp↓] theorem s_set (i : Nat) (k a : Ex) : (sSet i k a env st).W N T B C Y = (a env st).W (fun d st1 => match env[i]? with
  | some (some (.ref n)) => (k env st1).W (fun z st2 => match z with
    | .int j => (match st2[n]? with
      | some (.lst xs) => (match ixD xs.length j with
        | some q => d.gnd = true ∧ N env (st2.set n (.lst (xs.set q d)))
        | none => False)
      | _ => False)
    | _ => False) (fun K fs xs st1 => Y K fs xs env st1)
  | _ => False) (fun K fs xs st1 => Y K fs xs env st1) := by delta R.W RS.W cIf; exact Vv.s_set ..
@[scoped simp, scoped simp↓] theorem s_for (src : Ax) (g : Gx) (b : Sx) : (sFor src g b env st).W N T B C Y = (src env st).W (fun ds st1 => (forL g b ds env st1).W N T B C Y) (fun K fs xs st1 => Y K fs xs env st1) := by delta R.W RS.W cIf; exact Vv.s_for ..
@[scoped simp, scoped simp↓] theorem s_bad : (sBad env st).W N T B C Y = False := by delta R.W RS.W cIf; exact Vv.s_bad ..
@[scoped simp, scoped simp↓] theorem s_aug (i : Nat) (f : D → D → Option D) (a : Ex) : (sAug i f a env st).W N T B C Y = match env[i]? with
  | some (some x) => (a env st).W (fun y st1 => match f x y with
    | some z => N (env.set i (some z)) st1
    | none => False) (fun K fs xs st1 => Y K fs xs env st1)
  | _ => False := by delta R.W RS.W cIf; exact Vv.s_aug ..
@[scoped simp, scoped simp↓] theorem s_raise (K : String) (fs : List String) (ok : List D → Bool) (as : Ax) : (sRaise K fs ok as env st).W N T B C Y = (as env st).W (fun ds st1 => (ds.length = fs.length ∧ D.gnds ds = true ∧ ok ds = true) ∧ Y K fs ds env st1) (fun K fs xs st1 => Y K fs xs env st1) := by delta R.W RS.W cIf; exact Vv.s_raise ..
@[scoped simp, scoped simp↓] theorem s_try (b : Sx) (sub : String → Option Bool) (i : Nat) (s : Sx) : (sTry b sub i s env st).W N T B C Y = (b env st).W N T B C (fun K fs xs env1 st1 => match sub K with
    | some true => (s (env1.set i (some (.exn K fs xs))) st1).W NB (fun d s => d.gnd = true ∧ T d s) NB NB (fun _ _ _ _ _ => False)
    | some false => Y K fs xs env1 st1
    | none => False) := by delta R.W RS.W cIf; exact Vv.s_try ..
end
/-! functions -/
theorem w_fnS {fin : Nat → D → Sto → R D} {n slots : Nat} {b : Sx} {ds : List D} {st : Sto} {Q : D → Sto → Prop} {X : XP} (h : ds.length = n) : (fnS fin n slots b ds st).W Q X = (b (ds.map some ++ List.replicate (slots - n) none) st).W (fun _ st1 => (fin st.length .non st1).W Q X) (fun d st1 => (fin st.length d st1).W Q X) NB NB (fun K fs xs _ st1 => X K fs xs (st1.take st.length)) := by delta R.W RS.W; exact Vv.w_fnS h
theorem fn_W {fin : Nat → D → Sto → R D} {n slots : Nat} {b : Sx} {ds : List D} {st : Sto} {Q : D → Sto → Prop} {X : XP} (h : ds.length = n) (k : (b (ds.map some ++ List.replicate (slots - n) none) st).W (fun _ st1 => (fin st.length .non st1).W Q X) (fun d st1 => (fin st.length d st1).W Q X) NB NB (fun K fs xs _ st1 => X K fs xs (st1.take st.length))) : (fnS fin n slots b ds st).W Q X := by delta R.W RS.W at k; delta R.W; exact Vv.fn_W h k
theorem mk_W {C : String} {F : Fn} {ds : List D} {st : Sto} {Q : D → Sto → Prop} {X : XP} (h : (F (.ref st.length :: ds) (st ++ [.ins C [] []])).W (fun r st2 => r = .non ∧ ∃ fs ys, st2[st.length]? = some (.ins C fs ys) ∧ Q (.obj C fs ys) (st2.take st.length)) (fun K fs xs st2 => X K fs xs (st2.take st.length))) : (mkD C F ds st).W Q X := by delta R.W at h ⊢; exact Vv.mk_W h
@[scoped simp] theorem finR_gndS {b : Nat} {d : D} {st : Sto} (h : d.gnd = true) : finR b d st = .ok d (st.take b) := Vv.finR_gndS h
@[scoped simp, scoped simp↓] theorem w_eLstC (a : Ex) {env : Env} {st : Sto} {Q : D → Sto → Prop} {X : XP} : (eLstC a env st).W Q X = (a env st).W (fun x st1 => match view st1 x with
  | .lst xs => D.gnds xs = true ∧ Q (.ref st1.length) (st1 ++ [.lst xs])
  | .tup xs => D.gnds xs = true ∧ Q (.ref st1.length) (st1 ++ [.lst xs])
  | _ => False) X := by
  unfold eLstC
  rw [W_bnd]
  refine congrArg (fun q => (a env st).W q X) (funext fun x => funext fun st1 => ?_)
  have key : ∀ xs : List D, (if D.gnds xs = true then R.ok (D.ref st1.length) (st1 ++ [SO.lst xs]) else R.bad).W Q X = (D.gnds xs = true ∧ Q (.ref st1.length) (st1 ++ [.lst xs])) := fun xs => by
    by_cases h : D.gnds xs = true
    · rw [if_pos h, W_ok]
      exact propext ⟨fun z => ⟨h, z⟩, fun z => z.2⟩
    · rw [if_neg h, W_bad]
      exact propext ⟨fun z => z.elim, fun z => absurd z.1 h⟩
  cases view st1 x with
  | lst xs => exact key xs
  | tup xs => exact key xs
  | _ => exact W_bad
theorem map_inj0 {α β : Type} {f : α → β} (hf : ∀ x y, f x = f y → x = y) : ∀ {xs ys : List α}, xs.map f = ys.map f → xs = ys
  | [], [], _ => rfl
  | x :: xs, y :: ys, h => by
    simp only [List.map_cons, List.cons.injEq] at h
    rw [hf _ _ h.1, map_inj0 hf h.2]
theorem str_inj0 {a b : String} (h : Str.ofString a = Str.ofString b) : a = b := by
  rw [PySem.Str.ofString_eq_toList, PySem.Str.ofString_eq_toList] at h
  have h1 : a.toList.map Char.toNat = b.toList.map Char.toNat := by simpa using h
  have h2 : a.toList = b.toList := map_inj0 (fun x y e => Char.ext (UInt32.toNat_inj.mp e)) h1
  exact String.toList_inj.mp h2
@[scoped simp] theorem str_inj (a b : String) : (Str.ofString a = Str.ofString b) = (a = b) := propext ⟨str_inj0, fun h => by rw [h]⟩
@[scoped simp] theorem view_refS (st : Sto) (n : Nat) : view st (.ref n) = match st[n]? with
  | some (.lst xs) => .lst xs
  | _ => .ref n := rfl
/-! loops -/
section
variable {g : Gx} {b : Sx} {env : Env} {st : Sto} {N : Env → Sto → Prop} {T : D → Sto → Prop} {B C : Env → Sto → Prop} {Y : XQ}
theorem forL_W_nil : (forL g b [] env st).W N T B C Y = N env st := S_nx ..
theorem forL_W_cons (d : D) (ds : List D) : (forL g b (d :: ds) env st).W N T B C Y = match g d env with
  | none => False
  | some env1 => (b env1 st).W (fun env2 st2 => (forL g b ds env2 st2).W N T B C Y) T N (fun env2 st2 => (forL g b ds env2 st2).W N T B C Y) Y := by
  rw [forL]
  delta RS.W
  cases g d env with
  | none => rfl
  | some env1 =>
    dsimp only
    cases b env1 st with
    | ok f s => cases f <;> rfl
    | exc K fs xs e s => rfl
    | bad => rfl
/-- by what is done; E: the slots as they were ahead of the loop -/
theorem for_W {I : Env → List D → Env → Sto → Prop} {ds : List D} (h0 : I env [] env st)
    (hs : ∀ pre d post e s, ds = pre ++ d :: post → I env pre e s → ∃ e1, g d e = some e1 ∧ (b e1 s).W (I env (pre ++ [d])) T N (I env (pre ++ [d])) Y)
    (he : ∀ e s, I env ds e s → N e s) : (forL g b ds env st).W N T B C Y := by
  have key : ∀ (post pre : List D) (e : Env) (s : Sto), ds = pre ++ post → I env pre e s → (forL g b post e s).W N T B C Y := by
    intro post
    induction post with
    | nil =>
      intro pre e s ed hI
      rw [List.append_nil] at ed
      show (forL g b [] e s).W N T B C Y
      rw [forL_W_nil]
      exact he _ _ (ed ▸ hI)
    | cons d post ih =>
      intro pre e s ed hI
      obtain ⟨env1, h1, h2⟩ := hs pre d post e s ed hI
      rw [forL_W_cons, h1]
      have e2 : ds = (pre ++ [d]) ++ post := by rw [ed]; simp
      exact h2.imp (fun e s h => ih _ e s e2 h) (fun _ _ h => h) (fun _ _ h => h) (fun e s h => ih _ e s e2 h) (fun _ _ _ _ _ h => h)
  exact key ds [] env st rfl h0
/-- .. of items of one kind -/
theorem for_map {α : Type} {enc : α → D} {xs : List α} {I : Env → List α → Env → Sto → Prop} (h0 : I env [] env st)
    (hs : ∀ pre x post e s, xs = pre ++ x :: post → I env pre e s → ∃ e1, g (enc x) e = some e1 ∧ (b e1 s).W (I env (pre ++ [x])) T N (I env (pre ++ [x])) Y)
    (he : ∀ e s, I env xs e s → N e s) : (forL g b (xs.map enc) env st).W N T B C Y := by
  have key : ∀ (post pre : List α) (e : Env) (s : Sto), xs = pre ++ post → I env pre e s → (forL g b (post.map enc) e s).W N T B C Y := by
    intro post
    induction post with
    | nil =>
      intro pre e s ed hI
      rw [List.append_nil] at ed
      show (forL g b [] e s).W N T B C Y
      rw [forL_W_nil]
      exact he _ _ (ed ▸ hI)
    | cons d post ih =>
      intro pre e s ed hI
      obtain ⟨env1, h1, h2⟩ := hs pre d post e s ed hI
      rw [List.map_cons, forL_W_cons, h1]
      have e2 : xs = (pre ++ [d]) ++ post := by rw [ed]; simp
      exact h2.imp (fun e s h => ih _ e s e2 h) (fun _ _ h => h) (fun _ _ h => h) (fun e s h => ih _ e s e2 h) (fun _ _ _ _ _ h => h)
  exact key xs [] env st rfl h0
theorem enumD_app : ∀ (xs ys : List D) (k : Nat), enumD k (xs ++ ys) = enumD k xs ++ enumD (k + xs.length) ys
  | [], _, _ => rfl
  | x :: xs, ys, k => by
    rw [List.cons_append, enumD, enumD, enumD_app xs ys (k + 1), List.length_cons, List.cons_append]
    rw [show k + 1 + xs.length = k + (xs.length + 1) by omega]
theorem for_enum {α : Type} {enc : α → D} {xs : List α} {I : Env → List α → Env → Sto → Prop} (h0 : I env [] env st)
    (hs : ∀ pre x post e s, xs = pre ++ x :: post → I env pre e s → ∃ e1, g (.tup [.int (pre.length : Nat), enc x]) e = some e1 ∧ (b e1 s).W (I env (pre ++ [x])) T N (I env (pre ++ [x])) Y)
    (he : ∀ e s, I env xs e s → N e s) : (forL g b (enumD 0 (xs.map enc)) env st).W N T B C Y := by
  have key : ∀ (post pre : List α) (e : Env) (s : Sto), xs = pre ++ post → I env pre e s → (forL g b (enumD pre.length (post.map enc)) e s).W N T B C Y := by
    intro post
    induction post with
    | nil =>
      intro pre e s ed hI
      rw [List.append_nil] at ed
      show (forL g b [] e s).W N T B C Y
      rw [forL_W_nil]
      exact he _ _ (ed ▸ hI)
    | cons d post ih =>
      intro pre e s ed hI
      obtain ⟨env1, h1, h2⟩ := hs pre d post e s ed hI
      rw [List.map_cons, enumD, forL_W_cons, h1]
      have e2 : xs = (pre ++ [d]) ++ post := by rw [ed]; simp
      have el : pre.length + 1 = (pre ++ [d]).length := by simp
      rw [el]
      exact h2.imp (fun e s h => ih _ e s e2 h) (fun _ _ h => h) (fun _ _ h => h) (fun e s h => ih _ e s e2 h) (fun _ _ _ _ _ h => h)
  exact key xs [] env st rfl h0
theorem rgD_nat (a : Int) (n : Nat) : rgD a (a + n) = (List.range n).map fun i : Nat => D.int (a + i) := by
  unfold rgD
  rw [show (a + n - a).toNat = n by omega]
/-- range(a, z): by the place -/
theorem for_rg {a z : Int} (haz : a ≤ z) {I : Env → Int → Env → Sto → Prop} (h0 : I env a env st)
    (hs : ∀ k e s, a ≤ k → k < z → I env k e s → ∃ e1, g (.int k) e = some e1 ∧ (b e1 s).W (I env (k + 1)) T N (I env (k + 1)) Y)
    (he : ∀ e s, I env z e s → N e s) : (forL g b (rgD a z) env st).W N T B C Y := by
  obtain ⟨n, rfl⟩ : ∃ n : Nat, z = a + n := ⟨(z - a).toNat, by omega⟩
  rw [rgD_nat]
  refine for_map (I := fun E pre env st => I E (a + pre.length) env st) (by simpa using h0) ?_ ?_
  · intro pre k post e s ed hI
    have hk : k = pre.length ∧ pre.length < n := by
      have h1 : (List.range n)[pre.length]? = some k := by rw [ed]; simp
      obtain ⟨h2, h3⟩ := List.getElem?_eq_some_iff.mp h1
      simp at h2 h3
      omega
    obtain ⟨rfl, hlt⟩ := hk
    obtain ⟨env1, h1, h2⟩ := hs (a + pre.length) e s (by omega) (by omega) hI
    refine ⟨env1, h1, ?_⟩
    have ee : (a + (pre.length : Int) + 1) = a + ((pre ++ [pre.length]).length : Nat) := by simp; omega
    rw [ee] at h2
    exact h2
  · intro e s h
    refine he e s ?_
    simpa using h
/-- two ways that meet: what holds where they meet -/
theorem S_meet {r : RS} {P : Env → Sto → Prop} (h : r.W P T B C Y) (k : ∀ e s, P e s → N e s) : r.W N T B C Y := h.imp k (fun _ _ h => h) (fun _ _ h => h) (fun _ _ h => h) (fun _ _ _ _ _ h => h)
theorem rgD_emp {a z : Int} (h : z ≤ a) : rgD a z = [] := by
  unfold rgD
  rw [show (z - a).toNat = 0 by omega]
  rfl
end
/-! comprehensions -/
section
variable {g : Gx} {c : Tx} {e : Ex} {env : Env} {Q : List D → Sto → Prop} {X : XP}
/-- a turn of a comprehension: what is built so far stands at the end of the store -/
def LcTurn (g : Gx) (c : Tx) (e : Ex) (env : Env) (d : D) (acc : List D) (st : Sto) (K : List D → Sto → Prop) : Prop :=
  ∃ env1, g d env = some env1 ∧ (c env1 (st ++ [.lst acc])).W (fun t s => cIf (t = true) ((e env1 s).W (fun x s2 => x.gnd = true ∧ ∃ st2, s2 = st2 ++ [.lst acc] ∧ st2.length = st.length ∧ K (acc ++ [x]) st2) NX) (∃ st1, s = st1 ++ [.lst acc] ∧ st1.length = st.length ∧ K acc st1)) NX
theorem lc_step {d : D} {ds acc : List D} {st : Sto} {K : List D → Sto → Prop} (hl : acc.length < 1000000) (h : LcTurn g c e env d acc st K)
    (k : ∀ acc st1, st1.length = st.length → K acc st1 → (lcL g c e st.length ds env (st1 ++ [.lst acc])).W Q X) : (lcL g c e st.length (d :: ds) env (st ++ [.lst acc])).W Q X := by
  obtain ⟨env1, h1, h2⟩ := h
  rw [lcL, h1]
  dsimp only
  cases hc : c env1 (st ++ [.lst acc]) with
  | bad => rw [hc, W_bad] at h2; exact h2.elim
  | exc K fs xs s => rw [hc, W_exc] at h2; exact h2.elim
  | ok t s =>
    rw [hc, W_ok] at h2
    cases t with
    | false =>
      have h3 : ∃ st1, s = st1 ++ [.lst acc] ∧ st1.length = st.length ∧ K acc st1 := by simpa using h2
      obtain ⟨st1, rfl, hl1, hk⟩ := h3
      exact k _ _ hl1 hk
    | true =>
      have h3 : (e env1 s).W (fun x s2 => x.gnd = true ∧ ∃ st2, s2 = st2 ++ [.lst acc] ∧ st2.length = st.length ∧ K (acc ++ [x]) st2) NX := by simpa using h2
      dsimp only
      cases he : e env1 s with
      | bad => rw [he, W_bad] at h3; exact h3.elim
      | exc K fs xs s => rw [he, W_exc] at h3; exact h3.elim
      | ok x s2 =>
        rw [he, W_ok] at h3
        obtain ⟨hg, st2, rfl, hl2, hk⟩ := h3
        dsimp only
        have e1 : (st2 ++ [SO.lst acc])[st.length]? = some (.lst acc) := by rw [← hl2]; simp
        simp only [e1, hg, hl, and_self, if_true]
        have e2 : (st2 ++ [SO.lst acc]).set st.length (.lst (acc ++ [x])) = st2 ++ [.lst (acc ++ [x])] := by rw [← hl2]; simp
        rw [e2]
        exact k _ _ hl2 hk
/-- by what is done -/
theorem lc_W {α : Type} {enc : α → D} {xs : List α} {st : Sto} {I : List α → List D → Sto → Prop} (hx : xs.length ≤ 1000000) (h0 : I [] [] st)
    (hs : ∀ pre x post acc st1, xs = pre ++ x :: post → st1.length = st.length → I pre acc st1 → LcTurn g c e env (enc x) acc st1 (I (pre ++ [x])))
    (he : ∀ acc st1, st1.length = st.length → I xs acc st1 → Q acc (st1 ++ [.lst acc])) : (lcL g c e st.length (xs.map enc) env (st ++ [.lst []])).W Q X := by
  have key : ∀ (post pre : List α) (acc : List D) (st1 : Sto), xs = pre ++ post → st1.length = st.length → acc.length ≤ pre.length → I pre acc st1 → (lcL g c e st1.length (post.map enc) env (st1 ++ [.lst acc])).W Q X := by
    intro post
    induction post with
    | nil =>
      intro pre acc st1 e hl ha hI
      rw [List.append_nil] at e
      subst e
      have := he acc st1 hl hI
      simpa [lcL] using this
    | cons d post ih =>
      intro pre acc st1 e hl ha hI
      rw [List.map_cons]
      have hlen : pre.length < xs.length := by rw [e]; simp
      have ht := hs pre d post acc st1 e hl hI
      refine lc_step (K := fun a s => I (pre ++ [d]) a s ∧ a.length ≤ (pre ++ [d]).length) (by omega) ?_ ?_
      · obtain ⟨env1, h1, h2⟩ := ht
        refine ⟨env1, h1, h2.imp (fun t s h => ?_) (fun _ _ _ _ z => z)⟩
        refine ⟨fun ht => (h.1 ht).imp (fun x s2 h => ?_) (fun _ _ _ _ z => z), fun hn => ?_⟩
        · obtain ⟨hg, st2, e1, e2, e3⟩ := h
          exact ⟨hg, st2, e1, e2, e3, by simp; omega⟩
        · obtain ⟨st1, e1, e2, e3⟩ := h.2 hn
          exact ⟨st1, e1, e2, e3, by simp; omega⟩
      · intro acc2 st2 hl2 hk
        rw [← hl2]
        exact ih (pre ++ [d]) acc2 st2 (by rw [e]; simp) (by omega) hk.2 hk.1
  exact key xs [] [] st rfl rfl (Nat.le_refl _) h0
/-- items alone, the store stays -/
theorem lc_map {α : Type} {enc : α → D} {xs : List α} {st : Sto} {f : α → D} (hx : xs.length ≤ 1000000)
    (hs : ∀ x ∈ xs, (f x).gnd = true ∧ ∃ env1, g (enc x) env = some env1 ∧ ∀ acc, (e env1 (st ++ [.lst acc])).W (fun v s => v = f x ∧ s = st ++ [.lst acc]) NX)
    (he : Q (xs.map f) (st ++ [.lst (xs.map f)])) : (lcL g tYes e st.length (xs.map enc) env (st ++ [.lst []])).W Q X := by
  refine lc_W (I := fun pre acc s => acc = pre.map f ∧ s = st) hx ⟨rfl, rfl⟩ ?_ ?_
  · rintro pre x post acc s ex _ ⟨rfl, rfl⟩
    obtain ⟨hg, env1, h1, h2⟩ := hs x (by rw [ex]; simp)
    refine ⟨env1, h1, ?_⟩
    rw [w_tYes]
    refine ⟨fun _ => (h2 _).imp (fun v s h => ?_) (fun _ _ _ _ z => z), fun h => absurd rfl h⟩
    obtain ⟨rfl, rfl⟩ := h
    exact ⟨hg, s, rfl, rfl, by simp, rfl⟩
  · rintro acc s _ ⟨rfl, rfl⟩
    exact he
theorem lc_rg {a z : Int} {st : Sto} {I : Int → List D → Sto → Prop} (haz : a ≤ z) (hx : z - a ≤ 1000000) (h0 : I a [] st)
    (hs : ∀ k acc st1, a ≤ k → k < z → st1.length = st.length → I k acc st1 → LcTurn g c e env (.int k) acc st1 (I (k + 1)))
    (he : ∀ acc st1, st1.length = st.length → I z acc st1 → Q acc (st1 ++ [.lst acc])) : (lcL g c e st.length (rgD a z) env (st ++ [.lst []])).W Q X := by
  obtain ⟨n, rfl⟩ : ∃ n : Nat, z = a + n := ⟨(z - a).toNat, by omega⟩
  rw [rgD_nat]
  refine lc_W (I := fun pre acc st => I (a + pre.length) acc st) (by simp; omega) (by simpa using h0) ?_ ?_
  · intro pre k post acc st1 e hl hI
    have hk : k = pre.length ∧ pre.length < n := by
      have h1 : (List.range n)[pre.length]? = some k := by rw [e]; simp
      obtain ⟨h2, h3⟩ := List.getElem?_eq_some_iff.mp h1
      simp at h2 h3
      omega
    obtain ⟨rfl, hlt⟩ := hk
    have := hs (a + pre.length) acc st1 (by omega) (by omega) hl hI
    have e : (a + (pre.length : Int) + 1) = a + ((pre ++ [pre.length]).length : Nat) := by simp; omega
    rw [e] at this
    exact this
  · intro acc st1 hl h
    refine he acc st1 hl ?_
    simpa using h
end
end Wm
end Cb

set_option Elab.async false
set_option linter.all false
set_option maxRecDepth 100000
/-! CbMath: cells in order, windows, parts: plain lists. -/
namespace Cb
open PySem (Str)
open Wm
abbrev Cell := Int × Int
def ltC (a b : Cell) : Prop := a.1 < b.1 ∨ (a.1 = b.1 ∧ a.2 < b.2)
theorem ltC_irr (a : Cell) : ¬ ltC a a := by unfold ltC; omega
theorem ltC_asym {a b : Cell} (h : ltC a b) : ¬ ltC b a := by unfold ltC at *; omega
theorem ltC_trans {a b c : Cell} (h : ltC a b) (k : ltC b c) : ltC a c := by unfold ltC at *; omega
theorem sorted_uniq : ∀ {xs ys : List Cell}, xs.Pairwise ltC → ys.Pairwise ltC → (∀ c, c ∈ xs ↔ c ∈ ys) → xs = ys
  | [], [], _, _, _ => rfl
  | [], y :: ys, _, _, h => absurd ((h y).mpr List.mem_cons_self) (by simp)
  | x :: xs, [], _, _, h => absurd ((h x).mp List.mem_cons_self) (by simp)
  | x :: xs, y :: ys, hx, hy, h => by
    obtain ⟨hx1, hx2⟩ := List.pairwise_cons.mp hx
    obtain ⟨hy1, hy2⟩ := List.pairwise_cons.mp hy
    have e : x = y := by
      rcases List.mem_cons.mp ((h x).mp List.mem_cons_self) with e | e
      · exact e
      · rcases List.mem_cons.mp ((h y).mpr List.mem_cons_self) with e2 | e2
        · exact e2.symm
        · exact absurd (hx1 y e2) (ltC_asym (hy1 x e))
    subst e
    have : xs = ys := sorted_uniq hx2 hy2 fun c => by
      constructor
      · intro hc
        rcases List.mem_cons.mp ((h c).mp (List.mem_cons_of_mem _ hc)) with e | e
        · subst e; exact absurd (hx1 c hc) (ltC_irr c)
        · exact e
      · intro hc
        rcases List.mem_cons.mp ((h c).mpr (List.mem_cons_of_mem _ hc)) with e | e
        · subst e; exact absurd (hy1 c hc) (ltC_irr c)
        · exact e
    rw [this]
/-! ascending, each once -/
def dedA : Option Cell → List Cell → List Cell
  | _, [] => []
  | p, x :: r => if p = some x then dedA (some x) r else x :: dedA (some x) r
def asc (cs : List Cell) : List Cell := dedA none (sortP cs)
theorem dedA_mem : ∀ (xs : List Cell) (p : Option Cell) (c : Cell), c ∈ dedA p xs → c ∈ xs
  | [], _, _, h => h
  | x :: r, p, c, h => by
    unfold dedA at h
    split at h
    · exact List.mem_cons_of_mem _ (dedA_mem r _ c h)
    · rcases List.mem_cons.mp h with e | e
      · rw [e]; exact List.mem_cons_self
      · exact List.mem_cons_of_mem _ (dedA_mem r _ c e)
theorem mem_dedA : ∀ (xs : List Cell) (p : Option Cell) (c : Cell), c ∈ xs → c ∈ dedA p xs ∨ p = some c
  | [], _, _, h => absurd h (by simp)
  | x :: r, p, c, h => by
    unfold dedA
    rcases List.mem_cons.mp h with e | e
    · subst e
      split
      · rename_i hp; exact .inr hp
      · exact .inl List.mem_cons_self
    · rcases mem_dedA r (some x) c e with h2 | h2
      · split
        · exact .inl h2
        · exact .inl (List.mem_cons_of_mem _ h2)
      · have e2 : x = c := by simpa using h2
        subst e2
        split
        · rename_i hp; exact .inr hp
        · exact .inl List.mem_cons_self
theorem dedA_sorted : ∀ (xs : List Cell) (p : Option Cell), xs.Pairwise (fun a b => codeP a ≤ codeP b) → (∀ q, p = some q → ∀ x ∈ xs, codeP q ≤ codeP x) → (∀ x ∈ xs, ∀ y, (y ∈ xs ∨ p = some y) → codeP x = codeP y → x = y) →
    (dedA p xs).Pairwise (fun a b => codeP a < codeP b) ∧ ∀ q, p = some q → ∀ x ∈ dedA p xs, codeP q < codeP x
  | [], _, _, _, _ => ⟨.nil, fun _ _ x h => by cases h⟩
  | x :: r, p, hs, hp, hi => by
    obtain ⟨h1, h2⟩ := List.pairwise_cons.mp hs
    obtain ⟨k1, k2⟩ := dedA_sorted r (some x) h2 (fun q e y hy => by cases e; exact h1 y hy) (fun a ha y hy e => by
      rcases hy with hy | hy
      · exact hi a (List.mem_cons_of_mem _ ha) y (.inl (List.mem_cons_of_mem _ hy)) e
      · cases hy
        exact hi a (List.mem_cons_of_mem _ ha) x (.inl List.mem_cons_self) e)
    unfold dedA
    split
    · rename_i e
      exact ⟨k1, fun q eq y hy => by rw [e] at eq; cases eq; exact k2 _ rfl y hy⟩
    · rename_i e
      refine ⟨List.pairwise_cons.mpr ⟨fun y hy => k2 x rfl y hy, k1⟩, fun q eq y hy => ?_⟩
      have hq : codeP q < codeP x := by
        have le := hp q eq x List.mem_cons_self
        rcases Int.lt_or_eq_of_le le with h | h
        · exact h
        · exact absurd (by rw [eq, hi x List.mem_cons_self q (.inr eq) h.symm]) e
      rcases List.mem_cons.mp hy with e2 | e2
      · rw [e2]; exact hq
      · exact Int.lt_trans hq (k2 x rfl y e2)
def Bnd (cs : List Cell) : Prop := ∀ c ∈ cs, (0 ≤ c.1 ∧ c.1 < 1000000) ∧ 0 ≤ c.2 ∧ c.2 < 1000000
theorem insP_perm' (x : Cell) : ∀ ys, (insP x ys).Perm (x :: ys)
  | [] => .refl _
  | y :: ys => by
    unfold insP
    split
    · exact .refl _
    · exact ((insP_perm' x ys).cons y).trans (List.Perm.swap x y ys)
theorem sortP_perm' : ∀ xs, (sortP xs).Perm xs
  | [] => .refl _
  | x :: xs => (insP_perm' x _).trans ((sortP_perm' xs).cons x)
theorem insP_sorted' (x : Cell) : ∀ ys : List Cell, ys.Pairwise (fun a b => codeP a ≤ codeP b) → (insP x ys).Pairwise (fun a b => codeP a ≤ codeP b)
  | [], _ => by simp [insP]
  | y :: ys, h => by
    obtain ⟨h1, h2⟩ := List.pairwise_cons.mp h
    unfold insP
    split
    · rename_i hx
      refine List.pairwise_cons.mpr ⟨fun z hz => ?_, h⟩
      rcases List.mem_cons.mp hz with rfl | hz
      · exact hx
      · exact Int.le_trans hx (h1 z hz)
    · rename_i hx
      refine List.pairwise_cons.mpr ⟨fun z hz => ?_, insP_sorted' x ys h2⟩
      rcases List.mem_cons.mp ((insP_perm' x ys).mem_iff.mp hz) with rfl | hz
      · omega
      · exact h1 z hz
theorem sortP_sorted' : ∀ xs, (sortP xs).Pairwise (fun a b => codeP a ≤ codeP b)
  | [] => .nil
  | x :: xs => insP_sorted' x _ (sortP_sorted' xs)
theorem mem_asc (cs : List Cell) (c : Cell) : c ∈ asc cs ↔ c ∈ cs := by
  constructor
  · intro h
    exact (sortP_perm' cs).mem_iff.mp (dedA_mem _ _ _ h)
  · intro h
    rcases mem_dedA (sortP cs) none c ((sortP_perm' cs).mem_iff.mpr h) with h | h
    · exact h
    · cases h
theorem asc_sorted {cs : List Cell} (hb : Bnd cs) : (asc cs).Pairwise ltC := by
  have hb2 : ∀ c ∈ sortP cs, (0 ≤ c.1 ∧ c.1 < 1000000) ∧ 0 ≤ c.2 ∧ c.2 < 1000000 := fun c h => hb c ((sortP_perm' cs).mem_iff.mp h)
  have inj : ∀ a b : Cell, a ∈ sortP cs → b ∈ sortP cs → codeP a = codeP b → a = b := fun a b ha hb e => by
    have h1 := hb2 a ha
    have h2 := hb2 b hb
    unfold codeP at e
    exact Prod.ext (by omega) (by omega)
  have k := (dedA_sorted (sortP cs) none (sortP_sorted' cs) (fun q e => by cases e) (fun x hx y hy e => by
    rcases hy with hy | hy
    · exact inj x y hx hy e
    · cases hy)).1
  refine List.Pairwise.imp_of_mem (fun {a b} ha hb h => ?_) k
  have h1 := hb2 a (dedA_mem _ _ _ ha)
  have h2 := hb2 b (dedA_mem _ _ _ hb)
  unfold codeP at h
  unfold ltC
  omega
theorem dedA_len : ∀ (xs : List Cell) (p : Option Cell), (dedA p xs).length ≤ xs.length
  | [], _ => Nat.le_refl _
  | x :: r, p => by
    unfold dedA
    have := dedA_len r (some x)
    split <;> simp <;> omega
theorem asc_len (cs : List Cell) : (asc cs).length ≤ cs.length := by
  have := dedA_len (sortP cs) none
  rw [(sortP_perm' cs).length_eq] at this
  exact this
/-! a window, walked over -/
def scanRow (cs : List Cell) (cx cy x : Int) : Nat → List Cell
  | 0 => []
  | k + 1 => scanRow cs cx cy x k ++ if (x + cx, (k : Int) + cy) ∈ cs then [(x, (k : Int))] else []
def scan (cs : List Cell) (cx cy : Int) (W : Nat) : Nat → List Cell
  | 0 => []
  | k + 1 => scan cs cx cy W k ++ scanRow cs cx cy k W
theorem mem_scanRow (cs : List Cell) (cx cy x : Int) : ∀ (W : Nat) (c : Cell), c ∈ scanRow cs cx cy x W ↔ c.1 = x ∧ (0 ≤ c.2 ∧ c.2 < W) ∧ (c.1 + cx, c.2 + cy) ∈ cs
  | 0, c => by simp [scanRow]; intro _ h h2; omega
  | k + 1, c => by
    rw [scanRow, List.mem_append, mem_scanRow cs cx cy x k c]
    constructor
    · rintro (h | h)
      · exact ⟨h.1, ⟨h.2.1.1, by omega⟩, h.2.2⟩
      · split at h
        · rename_i hm
          rw [List.mem_singleton.mp h]
          exact ⟨rfl, ⟨by dsimp only; omega, by dsimp only; omega⟩, hm⟩
        · cases h
    · rintro ⟨h1, h2, h3⟩
      by_cases hk : c.2 = k
      · right
        rw [if_pos (by rw [← h1, ← hk]; exact h3)]
        exact List.mem_singleton.mpr (Prod.ext h1 hk)
      · exact .inl ⟨h1, ⟨h2.1, by omega⟩, h3⟩
theorem mem_scan (cs : List Cell) (cx cy : Int) (W : Nat) : ∀ (L : Nat) (c : Cell), c ∈ scan cs cx cy W L ↔ (0 ≤ c.1 ∧ c.1 < L) ∧ (0 ≤ c.2 ∧ c.2 < W) ∧ (c.1 + cx, c.2 + cy) ∈ cs
  | 0, c => by simp [scan]; intro h h2; omega
  | k + 1, c => by
    rw [scan, List.mem_append, mem_scan cs cx cy W k c, mem_scanRow]
    constructor
    · rintro (h | h)
      · exact ⟨⟨h.1.1, by omega⟩, h.2⟩
      · exact ⟨by omega, h.2⟩
    · rintro ⟨h1, h2⟩
      by_cases hk : c.1 = k
      · exact .inr ⟨hk, h2⟩
      · exact .inl ⟨⟨h1.1, by omega⟩, h2⟩
theorem scanRow_sorted (cs : List Cell) (cx cy x : Int) : ∀ W : Nat, (scanRow cs cx cy x W).Pairwise ltC
  | 0 => .nil
  | k + 1 => by
    rw [scanRow, List.pairwise_append]
    refine ⟨scanRow_sorted cs cx cy x k, by split <;> simp, fun a ha b hb => ?_⟩
    have h1 := (mem_scanRow cs cx cy x k a).mp ha
    split at hb
    · rw [List.mem_singleton.mp hb]
      exact .inr ⟨h1.1, h1.2.1.2⟩
    · cases hb
theorem scan_sorted (cs : List Cell) (cx cy : Int) (W : Nat) : ∀ L : Nat, (scan cs cx cy W L).Pairwise ltC
  | 0 => .nil
  | k + 1 => by
    rw [scan, List.pairwise_append]
    refine ⟨scan_sorted cs cx cy W k, scanRow_sorted _ _ _ _ _, fun a ha b hb => ?_⟩
    have h1 := (mem_scan cs cx cy W k a).mp ha
    have h2 := (mem_scanRow cs cx cy k W b).mp hb
    exact .inl (by omega)
/-- what is in the window, moved -/
def win (cs : List Cell) (cx cy : Int) (L W : Int) : List Cell := (cs.filter fun c => decide ((0 ≤ c.1 - cx ∧ c.1 - cx < L) ∧ 0 ≤ c.2 - cy ∧ c.2 - cy < W)).map fun c => (c.1 - cx, c.2 - cy)
theorem mem_win (cs : List Cell) (cx cy L W : Int) (c : Cell) : c ∈ win cs cx cy L W ↔ (0 ≤ c.1 ∧ c.1 < L) ∧ (0 ≤ c.2 ∧ c.2 < W) ∧ (c.1 + cx, c.2 + cy) ∈ cs := by
  unfold win
  rw [List.mem_map]
  constructor
  · rintro ⟨d, hd, rfl⟩
    obtain ⟨h1, h2⟩ := List.mem_filter.mp hd
    have h3 := of_decide_eq_true h2
    refine ⟨h3.1, h3.2, ?_⟩
    dsimp only
    rw [show d.1 - cx + cx = d.1 by omega, show d.2 - cy + cy = d.2 by omega]
    exact h1
  · rintro ⟨h1, h2, h3⟩
    refine ⟨_, List.mem_filter.mpr ⟨h3, decide_eq_true ?_⟩, ?_⟩
    · dsimp only; omega
    · dsimp only; exact Prod.ext (by dsimp only; omega) (by dsimp only; omega)
theorem win_sorted {cs : List Cell} (h : cs.Pairwise ltC) (cx cy L W : Int) : (win cs cx cy L W).Pairwise ltC := by
  unfold win
  refine List.Pairwise.map _ (fun a b h => ?_) (h.filter _)
  unfold ltC at *
  dsimp only
  omega
theorem scan_win {cs ds : List Cell} (hs : ds.Pairwise ltC) (hm : ∀ c, c ∈ cs ↔ c ∈ ds) (cx cy : Int) (L W : Nat) : scan cs cx cy W L = win ds cx cy L W :=
  sorted_uniq (scan_sorted _ _ _ _ _) (win_sorted hs _ _ _ _) fun c => by rw [mem_scan, mem_win, hm]
/-! cells in a tuple -/
def flat : List Cell → List D
  | [] => []
  | c :: cs => .int c.1 :: .int c.2 :: flat cs
theorem flat_app : ∀ xs ys : List Cell, flat (xs ++ ys) = flat xs ++ flat ys
  | [], _ => rfl
  | x :: xs, ys => by rw [List.cons_append, flat, flat, flat_app xs ys]; rfl
theorem flat_len : ∀ cs : List Cell, (flat cs).length = 2 * cs.length
  | [] => rfl
  | c :: cs => by rw [flat, List.length_cons, List.length_cons, flat_len cs, List.length_cons]; omega
theorem flat_gnds : ∀ cs : List Cell, D.gnds (flat cs) = true
  | [] => rfl
  | c :: cs => by simp [flat, D.gnds, D.gnd, flat_gnds cs]
theorem pairs_gnds : ∀ cs : List Cell, D.gnds (cs.map pairD) = true
  | [] => rfl
  | c :: cs => by simp [D.gnds, D.gnd, pairD, pairs_gnds cs]
@[simp] theorem view_pairD (st : Sto) (c : Cell) : Cb.view st (pairD c) = pairD c := rfl
@[simp] theorem pairD_gnd (c : Cell) : (pairD c).gnd = true := by simp [pairD, D.gnd, D.gnds]
theorem flat_get : ∀ (cs : List Cell) (k : Nat), (flat cs)[2 * k]? = (cs[k]?).map (fun c => D.int c.1) ∧ (flat cs)[2 * k + 1]? = (cs[k]?).map (fun c => D.int c.2)
  | [], k => by simp [flat]
  | c :: cs, 0 => by simp [flat]
  | c :: cs, k + 1 => by
    have := flat_get cs k
    rw [show 2 * (k + 1) = 2 * k + 1 + 1 by omega]
    simp [flat, this.1, this.2]
structure Prt where
  day : Int
  l : Int
  w : Int
  left : Int
  way : Int
  cs : List Cell
def Prt.xs (p : Prt) : List D := .int p.day :: .int p.l :: .int p.w :: .int p.left :: .int p.way :: flat p.cs
def Prt.d (p : Prt) : D := .tup p.xs
@[simp] theorem Prt.view (p : Prt) (st : Sto) : Cb.view st p.d = p.d := rfl
@[simp] theorem Prt.gnd (p : Prt) : p.d.gnd = true := by simp [Prt.d, Prt.xs, D.gnd, D.gnds, flat_gnds]
@[simp] theorem Prt.i0 (p : Prt) : oIx p.d (.int 0) = some (.int p.day) := oIx_tup (k := 0) rfl
@[simp] theorem Prt.i1 (p : Prt) : oIx p.d (.int 1) = some (.int p.l) := oIx_tup (k := 1) rfl
@[simp] theorem Prt.i2 (p : Prt) : oIx p.d (.int 2) = some (.int p.w) := oIx_tup (k := 2) rfl
@[simp] theorem Prt.i3 (p : Prt) : oIx p.d (.int 3) = some (.int p.left) := oIx_tup (k := 3) rfl
@[simp] theorem Prt.i4 (p : Prt) : oIx p.d (.int 4) = some (.int p.way) := oIx_tup (k := 4) rfl
@[simp] theorem Prt.len (p : Prt) : cLen [p.d] = some (.int (5 + 2 * (p.cs.length : Int))) := by
  simp [Prt.d, Prt.xs, flat_len]
  omega
theorem Prt.ix (p : Prt) (k : Nat) (c : Cell) (h : p.cs[k]? = some c) : oIx p.d (.int (5 + (k : Int) * 2)) = some (.int c.1) ∧ oIx p.d (.int (5 + (k : Int) * 2 + 1)) = some (.int c.2) := by
  have h1 := flat_get p.cs k
  rw [h] at h1
  constructor
  · rw [show (5 + (k : Int) * 2) = ((5 + 2 * k : Nat) : Int) by omega]
    refine oIx_tup ?_
    rw [show 5 + 2 * k = 2 * k + 5 by omega]
    simpa [Prt.xs] using h1.1
  · rw [show (5 + (k : Int) * 2 + 1) = ((2 * k + 1 + 5 : Nat) : Int) by omega]
    refine oIx_tup ?_
    simpa [Prt.xs] using h1.2
theorem rg3_cells (n : Nat) : rg3D 5 (5 + 2 * (n : Int)) 2 = (List.range n).map fun t : Nat => D.int (5 + (t : Int) * 2) := by
  have : rg3N 5 (5 + 2 * (n : Int)) 2 = n := by
    unfold rg3N
    split
    · omega
    · omega
  simp [rg3D, this]
theorem in_pairs (cs : List Cell) (a b : Int) : oIn (.tup [.int a, .int b]) (.lst (cs.map pairD)) = some (.bl (decide ((a, b) ∈ cs))) := by
  have hp : D.plains 59 (cs.map pairD) = true := by
    induction cs with
    | nil => rfl
    | cons c cs ih => simp [D.plains, D.plain, pairD, ih]
  have ha : (cs.map pairD).any (fun z => z.eqv (.tup [.int a, .int b])) = decide ((a, b) ∈ cs) := by
    induction cs with
    | nil => rfl
    | cons c cs ih =>
      rw [List.map_cons, List.any_cons, ih (by simp only [List.map_cons, D.plains, Bool.and_eq_true] at hp; exact hp.2)]
      obtain ⟨x, y⟩ := c
      by_cases h : x = a ∧ y = b
      · obtain ⟨rfl, rfl⟩ := h
        simp [pairD, D.eqv, D.eqvs]
      · have : (pairD (x, y)).eqv (.tup [.int a, .int b]) = false := by
          simp [pairD, D.eqv, D.eqvs]
          intro e1 e2
          exact h ⟨e1, e2⟩
        rw [this]
        simp only [Bool.false_or, List.mem_cons, Prod.mk.injEq]
        congr 1
        apply propext
        constructor
        · exact .inr
        · rintro (⟨e1, e2⟩ | h2)
          · exact absurd ⟨e1.symm, e2.symm⟩ h
          · exact h2
  simp only [oIn, isInD]
  rw [if_pos ⟨by simp [D.plain, D.plains], hp⟩, ha]
  rfl
/-- range(0, z) by natural numbers -/
theorem for_nat {g : Gx} {b : Sx} {env : Env} {st : Sto} {N : Env → Sto → Prop} {T : D → Sto → Prop} {B C : Env → Sto → Prop} {Y : XQ} {z : Int} (hz : 0 ≤ z) {I : Env → Nat → Env → Sto → Prop} (h0 : I env 0 env st)
    (hs : ∀ (k : Nat) e s, (k : Int) < z → I env k e s → ∃ e1, g (.int k) e = some e1 ∧ (b e1 s).W (I env (k + 1)) T N (I env (k + 1)) Y)
    (he : ∀ e s, I env z.toNat e s → N e s) : (forL g b (rgD 0 z) env st).W N T B C Y := by
  refine for_rg hz (I := fun E k e s => I E k.toNat e s) h0 (fun k e s h1 h2 hI => ?_) he
  obtain ⟨n, rfl⟩ : ∃ n : Nat, k = n := ⟨k.toNat, by omega⟩
  obtain ⟨e1, h3, h4⟩ := hs n e s h2 hI
  refine ⟨e1, h3, ?_⟩
  rw [show ((n : Int) + 1).toNat = n + 1 by omega]
  exact h4
theorem lc_enum {g : Gx} {c : Tx} {e : Ex} {env : Env} {Q : List D → Sto → Prop} {X : XP} {α : Type} {enc : α → D} {xs : List α} {st : Sto} {I : List α → List D → Sto → Prop} (hx : xs.length ≤ 1000000) (h0 : I [] [] st)
    (hs : ∀ pre x post acc st1, xs = pre ++ x :: post → st1.length = st.length → I pre acc st1 → LcTurn g c e env (.tup [.int (pre.length : Nat), enc x]) acc st1 (I (pre ++ [x])))
    (he : ∀ acc st1, st1.length = st.length → I xs acc st1 → Q acc (st1 ++ [.lst acc])) : (lcL g c e st.length (enumD 0 (xs.map enc)) env (st ++ [.lst []])).W Q X := by
  have key : ∀ (post pre : List α) (acc : List D) (st1 : Sto), xs = pre ++ post → st1.length = st.length → acc.length ≤ pre.length → I pre acc st1 → (lcL g c e st1.length (enumD pre.length (post.map enc)) env (st1 ++ [.lst acc])).W Q X := by
    intro post
    induction post with
    | nil =>
      intro pre acc st1 ed hl ha hI
      rw [List.append_nil] at ed
      subst ed
      have := he acc st1 hl hI
      simpa [lcL, enumD] using this
    | cons d post ih =>
      intro pre acc st1 ed hl ha hI
      rw [List.map_cons, enumD]
      have hlen : pre.length < xs.length := by rw [ed]; simp
      have ht := hs pre d post acc st1 ed hl hI
      refine lc_step (K := fun a s => I (pre ++ [d]) a s ∧ a.length ≤ (pre ++ [d]).length) (by omega) ?_ ?_
      · obtain ⟨env1, h1, h2⟩ := ht
        refine ⟨env1, h1, h2.imp (fun t s h => ?_) (fun _ _ _ _ z => z)⟩
        refine ⟨fun ht => (h.1 ht).imp (fun x s2 h => ?_) (fun _ _ _ _ z => z), fun hn => ?_⟩
        · obtain ⟨hg, st2, e1, e2, e3⟩ := h
          exact ⟨hg, st2, e1, e2, e3, by simp; omega⟩
        · obtain ⟨st1, e1, e2, e3⟩ := h.2 hn
          exact ⟨st1, e1, e2, e3, by simp; omega⟩
      · intro acc2 st2 hl2 hk
        rw [← hl2]
        have el : pre.length + 1 = (pre ++ [d]).length := by simp
        rw [el]
        exact ih (pre ++ [d]) acc2 st2 (by rw [ed]; simp) (by omega) hk.2 hk.1
  exact key xs [] [] st rfl rfl (Nat.le_refl _) h0
/-- one item after a test, nothing else changed -/
theorem lc_turn {g : Gx} {c : Tx} {e : Ex} {env env1 : Env} {d : D} {acc : List D} {st : Sto} {K : List D → Sto → Prop} {p : Bool} {v : D} (hg : g d env = some env1)
    (hc : (c env1 (st ++ [.lst acc])).W (fun t s => t = p ∧ s = st ++ [.lst acc]) NX) (he : p = true → (e env1 (st ++ [.lst acc])).W (fun x s => x = v ∧ s = st ++ [.lst acc]) NX) (hv : p = true → v.gnd = true)
    (hk : K (if p then acc ++ [v] else acc) st) : LcTurn g c e env d acc st K := by
  refine ⟨env1, hg, hc.imp (fun t s h => ?_) (fun _ _ _ _ z => z)⟩
  obtain ⟨rfl, rfl⟩ := h
  cases t with
  | true =>
    refine ⟨fun _ => (he rfl).imp (fun x s h => ?_) (fun _ _ _ _ z => z), fun z => absurd rfl z⟩
    obtain ⟨rfl, rfl⟩ := h
    exact ⟨hv rfl, st, rfl, rfl, hk⟩
  | false => exact ⟨(fun z => by cases z), fun _ => ⟨st, rfl, rfl, hk⟩⟩
def lastC (p : Option Cell) : List Cell → Option Cell
  | [] => p
  | x :: r => lastC (some x) r
theorem dedA_snoc : ∀ (xs : List Cell) (p : Option Cell) (y : Cell), dedA p (xs ++ [y]) = dedA p xs ++ if lastC p xs = some y then [] else [y]
  | [], p, y => by
    by_cases h : p = some y <;> simp [dedA, lastC, h]
  | x :: r, p, y => by
    rw [List.cons_append, dedA, dedA, dedA_snoc r (some x) y, lastC]
    split <;> rfl
theorem lastC_get : ∀ (xs : List Cell) (p : Option Cell) (h : xs ≠ []), lastC p xs = xs[xs.length - 1]?
  | [x], p, _ => rfl
  | x :: y :: r, p, _ => by
    rw [lastC, lastC_get (y :: r) (some x) (by simp)]
    simp
theorem pair?_pairD {c : Cell} (h : (0 ≤ c.1 ∧ c.1 < 1000000) ∧ 0 ≤ c.2 ∧ c.2 < 1000000) : (pairD c).pair? = some c := by
  obtain ⟨⟨h1, h2⟩, h3, h4⟩ := h
  simp [pairD, D.pair?, h1, h2, h3, h4]
theorem cSorted_pairs {cs : List Cell} (h : Bnd cs) (hl : cs.length < 64) : cSorted [.lst (cs.map pairD)] = some (.lst ((sortP cs).map pairD)) := by
  cases hc : cs with
  | nil => rfl
  | cons c r =>
    have h1 : (cs.map pairD).mapM D.int? = none := by
      rw [hc, List.map_cons, List.mapM_cons]
      rfl
    have h2 : ∀ ds : List Cell, Bnd ds → (ds.map pairD).mapM D.pair? = some ds := by
      intro ds
      induction ds with
      | nil => intro _; rfl
      | cons d ds ih =>
        intro hb
        rw [List.map_cons, List.mapM_cons, pair?_pairD (hb d List.mem_cons_self), ih (fun c hc => hb c (List.mem_cons_of_mem _ hc))]
        rfl
    rw [← hc]
    unfold cSorted
    simp only [h1, h2 cs h, Option.bind_some, hl, if_true]
theorem oNe_pairs (a b : Cell) : oNe (pairD a) (pairD b) = some (.bl (!decide (a = b))) := by
  obtain ⟨x, y⟩ := a
  obtain ⟨z, w⟩ := b
  have : (pairD (x, y)).eqv (pairD (z, w)) = decide ((x, y) = (z, w)) := by
    simp only [pairD, D.eqv, D.eqvs, Bool.and_true, Prod.mk.injEq]
    by_cases h1 : x = z <;> by_cases h2 : y = w <;> simp [h1, h2]
  unfold oNe
  rw [if_pos ⟨by simp [pairD, D.plain, D.plains], by simp [pairD, D.plain, D.plains]⟩, this]
/-! rows by place -/
def rows {α : Type} (f : Nat → α → D) : Nat → List α → List D
  | _, [] => []
  | k, x :: r => f k x :: rows f (k + 1) r
@[simp] theorem rows_len {α : Type} (f : Nat → α → D) : ∀ (xs : List α) (k : Nat), (rows f k xs).length = xs.length
  | [], _ => rfl
  | x :: r, k => by rw [rows, List.length_cons, List.length_cons, rows_len f r]
theorem rows_snoc {α : Type} (f : Nat → α → D) : ∀ (xs : List α) (k : Nat) (y : α), rows f k (xs ++ [y]) = rows f k xs ++ [f (k + xs.length) y]
  | [], k, y => by simp [rows]
  | x :: r, k, y => by
    rw [List.cons_append, rows, rows, rows_snoc f r (k + 1) y, List.cons_append, List.length_cons]
    rw [show k + 1 + r.length = k + (r.length + 1) by omega]
theorem rows_get {α : Type} (f : Nat → α → D) : ∀ (xs : List α) (k i : Nat), (rows f k xs)[i]? = (xs[i]?).map (f (k + i))
  | [], _, _ => by simp [rows]
  | x :: r, k, 0 => by simp [rows]
  | x :: r, k, i + 1 => by
    rw [rows, List.getElem?_cons_succ, List.getElem?_cons_succ, rows_get f r (k + 1) i]
    rw [show k + 1 + i = k + (i + 1) by omega]
theorem rows_at {α : Type} {f : Nat → α → D} {xs : List α} {i : Nat} {x : α} (h : xs[i]? = some x) : (rows f 0 xs)[i]? = some (f i x) := by
  rw [rows_get, h, Nat.zero_add]; rfl
theorem rows_gnds {α : Type} (f : Nat → α → D) (h : ∀ k x, (f k x).gnd = true) : ∀ (xs : List α) (k : Nat), D.gnds (rows f k xs) = true
  | [], _ => rfl
  | x :: r, k => by simp [rows, D.gnds, h, rows_gnds f h r]
theorem rows_map {α : Type} (f g : Nat → α → D) (h : D → D) (e : ∀ k x, h (f k x) = g k x) : ∀ (xs : List α) (k : Nat), (rows f k xs).map h = rows g k xs
  | [], _ => rfl
  | x :: r, k => by rw [rows, List.map_cons, e, rows_map f g h e r]; rfl
/-- rows as items with their place -/
theorem rows_eq {α : Type} (f : Nat → α → D) : ∀ (xs : List α) (k : Nat), rows f k xs = (xs.zipIdx k).map fun p => f p.2 p.1
  | [], _ => rfl
  | x :: r, k => by rw [rows, rows_eq f r (k + 1), List.zipIdx_cons]; rfl
theorem oIx_str {z : Str} {l : List Nat} (h : z.cps.toList = l) (k c : Nat) (hk : l[k]? = some c) (hl : l.length ≤ 1000000) : oIx (.str z) (.int (k : Int)) = some (.str ⟨#[c]⟩) := by
  have hi := (List.getElem?_eq_some_iff.mp hk).1
  have hz : z.length ≤ 1000000 := by
    have : z.length = z.cps.toList.length := by simp [PySem.Str.length]
    rw [this, h]
    exact hl
  simp only [oIx, hz, if_true, h, ixD_nat hi, Option.bind_some, hk, Option.map_some]
theorem oAdd_lst (xs ys : List D) (h : xs.length + ys.length ≤ 1000000) : oAdd (.lst xs) (.lst ys) = some (.lst (xs ++ ys)) := by simp [oAdd, h]
theorem oAdd_tup (xs ys : List D) (h : xs.length + ys.length ≤ 1000000) : oAdd (.tup xs) (.tup ys) = some (.tup (xs ++ ys)) := by simp [oAdd, h]
theorem oIx_last (xs : List D) (d : D) : oIx (.lst (xs ++ [d])) (.int (-1)) = some d := by
  have : ixD (xs ++ [d]).length (-1) = some xs.length := by
    unfold ixD
    rw [if_neg (by omega), if_pos (by simp; omega)]
    simp
    omega
  simp only [oIx, this, Option.bind_some]
  simp
/-- a loop over rows -/
theorem for_rows {α : Type} {f : Nat → α → D} {xs : List α} {g : Gx} {b : Sx} {env : Env} {st : Sto} {N : Env → Sto → Prop} {T : D → Sto → Prop} {B C : Env → Sto → Prop} {Y : XQ} {I : Env → List α → Env → Sto → Prop} (h0 : I env [] env st)
    (hs : ∀ pre x post e s, xs = pre ++ x :: post → I env pre e s → ∃ e1, g (f pre.length x) e = some e1 ∧ (b e1 s).W (I env (pre ++ [x])) T N (I env (pre ++ [x])) Y)
    (he : ∀ e s, I env xs e s → N e s) : (forL g b (rows f 0 xs) env st).W N T B C Y := by
  have key : ∀ (post pre : List α) (e : Env) (s : Sto), xs = pre ++ post → I env pre e s → (forL g b (rows f pre.length post) e s).W N T B C Y := by
    intro post
    induction post with
    | nil =>
      intro pre e s ed hI
      rw [List.append_nil] at ed
      show (forL g b [] e s).W N T B C Y
      rw [forL_W_nil]
      exact he _ _ (ed ▸ hI)
    | cons d post ih =>
      intro pre e s ed hI
      obtain ⟨env1, h1, h2⟩ := hs pre d post e s ed hI
      rw [rows, forL_W_cons, h1]
      have e2 : xs = (pre ++ [d]) ++ post := by rw [ed]; simp
      have el : pre.length + 1 = (pre ++ [d]).length := by simp
      rw [el]
      exact h2.imp (fun e s h => ih _ e s e2 h) (fun _ _ h => h) (fun _ _ h => h) (fun e s h => ih _ e s e2 h) (fun _ _ _ _ _ h => h)
  exact key xs [] env st rfl h0
/-- .. a comprehension -/
theorem lc_rows {α : Type} {f : Nat → α → D} {h : Nat → α → D} {xs : List α} {st : Sto} {g : Gx} {e : Ex} {env : Env} {Q : List D → Sto → Prop} {X : XP} (hx : xs.length ≤ 1000000)
    (hs : ∀ k x, xs[k]? = some x → (h k x).gnd = true ∧ ∃ env1, g (f k x) env = some env1 ∧ ∀ acc, (e env1 (st ++ [.lst acc])).W (fun v s => v = h k x ∧ s = st ++ [.lst acc]) NX)
    (he : Q (rows h 0 xs) (st ++ [.lst (rows h 0 xs)])) : (lcL g tYes e st.length (rows f 0 xs) env (st ++ [.lst []])).W Q X := by
  rw [rows_eq f]
  rw [rows_eq h] at he
  refine lc_map (f := fun p : α × Nat => h p.2 p.1) (by simpa using hx) (fun p hp => ?_) he
  have := List.mem_zipIdx_iff_getElem?.mp hp
  exact hs p.2 p.1 this
theorem flat_rep (n : Nat) (d : D) : (List.replicate n [d]).flatten = List.replicate n d := by
  induction n with
  | zero => rfl
  | succ n ih => rw [List.replicate_succ, List.flatten_cons, ih, List.replicate_succ]; rfl
theorem oMul_tup1 (d : D) (k : Int) (h : 1 ≤ k ∧ k ≤ 1000) : oMul (.tup [d]) (.int k) = some (.tup (List.replicate k.toNat d)) := by
  have : 1 ≤ k ∧ k ≤ 1000 ∧ 0 < [d].length ∧ [d].length ≤ 1000 := ⟨h.1, h.2, by simp, by simp⟩
  simp only [oMul, this, if_true, flat_rep]
  simp
theorem lc_at {g : Gx} {c : Tx} {e : Ex} {env : Env} {Q : List D → Sto → Prop} {X : XP} {n : Nat} {st' : Sto} {ds : List D} (st : Sto) (h1 : st' = st ++ [.lst []]) (h2 : n = st.length) (h : (lcL g c e st.length ds env (st ++ [.lst []])).W Q X) : (lcL g c e n ds env st').W Q X := by
  rw [h1, h2]; exact h
/-- cells within sides -/
def CsIn (cs : List Cell) (l w : Int) : Prop := ∀ c ∈ cs, (0 ≤ c.1 ∧ c.1 < l) ∧ 0 ≤ c.2 ∧ c.2 < w
theorem CsIn.nil (l w : Int) : CsIn [] l w := fun c h => by cases h
theorem CsIn.snoc {cs : List Cell} {l w x y : Int} (h : CsIn cs l w) (hx : 0 ≤ x ∧ x < l) (hy : 0 ≤ y ∧ y < w) : CsIn (cs ++ [(x, y)]) l w := fun c hc => by
  rcases List.mem_append.mp hc with hc | hc
  · exact h c hc
  · rw [List.mem_singleton.mp hc]
    exact ⟨hx, hy⟩
theorem gnds_rep (n : Nat) {d : D} (h : d.gnd = true) : D.gnds (List.replicate n d) = true := by
  induction n with
  | zero => rfl
  | succ n ih => simp [List.replicate_succ, D.gnds, h, ih]
@[simp] theorem take_la (st xs : Sto) (k : Nat) : List.take (List.length st + k) (st ++ xs) = st ++ xs.take k := by
  rw [List.take_length_add_append]
/-- range(5, len(part), 2) -/
theorem for_rg3 {g : Gx} {b : Sx} {env : Env} {st : Sto} {N : Env → Sto → Prop} {T : D → Sto → Prop} {B C : Env → Sto → Prop} {Y : XQ} {n : Nat} {I : Env → Nat → Env → Sto → Prop} (h0 : I env 0 env st)
    (hs : ∀ (k : Nat) e s, k < n → I env k e s → ∃ e1, g (.int (5 + (k : Int) * 2)) e = some e1 ∧ (b e1 s).W (I env (k + 1)) T N (I env (k + 1)) Y)
    (he : ∀ e s, I env n e s → N e s) : (forL g b (rg3D 5 (5 + 2 * (n : Int)) 2) env st).W N T B C Y := by
  rw [rg3_cells]
  refine for_map (I := fun E pre e s => I E pre.length e s) h0 (fun pre k post e s ed hI => ?_) (fun e s h => he e s (by simpa using h))
  have hk : k = pre.length ∧ pre.length < n := by
    have h1 : (List.range n)[pre.length]? = some k := by rw [ed]; simp
    obtain ⟨h2, h3⟩ := List.getElem?_eq_some_iff.mp h1
    simp at h2 h3
    omega
  obtain ⟨rfl, hlt⟩ := hk
  obtain ⟨e1, h3, h4⟩ := hs _ e s hlt hI
  refine ⟨e1, h3, ?_⟩
  rw [List.length_append]
  exact h4
theorem add_cell (p : Prt) (x y : Int) (h : p.cs.length ≤ 100000) : oAdd p.d (.tup [.int x, .int y]) = some (Prt.mk p.day p.l p.w p.left p.way (p.cs ++ [(x, y)])).d := by
  unfold Prt.d
  rw [oAdd_tup _ _ (by simp [Prt.xs, flat_len]; omega)]
  simp [Prt.xs, flat_app, flat]
theorem scanRow_len (cs : List Cell) (cx cy x : Int) : ∀ W : Nat, (scanRow cs cx cy x W).length ≤ W
  | 0 => Nat.le_refl _
  | k + 1 => by
    have := scanRow_len cs cx cy x k
    rw [scanRow, List.length_append]
    split <;> simp <;> omega
theorem scan_len (cs : List Cell) (cx cy : Int) (W : Nat) : ∀ L : Nat, (scan cs cx cy W L).length ≤ W * L
  | 0 => Nat.zero_le _
  | k + 1 => by
    have h1 := scan_len cs cx cy W k
    have h2 := scanRow_len cs cx cy k W
    rw [scan, List.length_append, Nat.mul_succ]
    omega
end Cb

set_option Elab.async false
set_option linter.all false
set_option maxRecDepth 100000
set_option maxHeartbeats 1000000
/-! CbW2: the W calculus for CbSem2. -/
namespace Cb.Wm
open Cb
open PySem (Str)
@[scoped simp, scoped simp↓] theorem w_eLrg (a b : Ex) {env : Env} {st : Sto} {Q : D → Sto → Prop} {X : XP} : (eLrg a b env st).W Q X = (a env st).W (fun x st1 => (b env st1).W (fun y st2 => match x, y with
  | .int i, .int j => ((-1000000 ≤ i ∧ i ≤ 1000000) ∧ -1000000 ≤ j ∧ j ≤ 1000000) ∧ Q (.lst (rgD i j)) st2
  | _, _ => False) X) X := by
  unfold eLrg
  rw [W_bnd]
  refine congrArg (fun q => (a env st).W q X) (funext fun x => funext fun st1 => ?_)
  rw [W_bnd]
  refine congrArg (fun q => (b env st1).W q X) (funext fun y => funext fun st2 => ?_)
  have key : ∀ i j : Int, (if (-1000000 ≤ i ∧ i ≤ 1000000) ∧ -1000000 ≤ j ∧ j ≤ 1000000 then R.ok (D.lst (rgD i j)) st2 else R.bad).W Q X = (((-1000000 ≤ i ∧ i ≤ 1000000) ∧ -1000000 ≤ j ∧ j ≤ 1000000) ∧ Q (.lst (rgD i j)) st2) := fun i j => by
    by_cases h : (-1000000 ≤ i ∧ i ≤ 1000000) ∧ -1000000 ≤ j ∧ j ≤ 1000000
    · rw [if_pos h, W_ok]
      exact propext ⟨fun z => ⟨h, z⟩, fun z => z.2⟩
    · rw [if_neg h, W_bad]
      exact propext ⟨fun z => z.elim, fun z => absurd z.1 h⟩
  cases x <;> first | exact W_bad | skip
  cases y <;> first | exact W_bad | skip
  exact key _ _
end Cb.Wm

set_option Elab.async false
set_option linter.all false
set_option maxRecDepth 100000
set_option maxHeartbeats 4000000
/-! CbExc: caught exceptions: their fields, isinstance, try, functions called within suites. -/
namespace PySem.W
open PySem PySem.Spec PySem.Calls PyProof.Rows
section
variable {prog : Program} {w : World} {A : Around} {E : Value → Shared → Prop} {s : Shared} {K : Frag} {x D : Addr} {ox : Obj} {od : Option Obj}
theorem cbx_find {C : Addr} {name : Str} {a g : Value} (hc : (clsIn K C).isSome = true) (ha : findIn K (.ref C) name = some (some a)) (hg : specialIn K a "__get__" = some (some g)) (ht : takesIn K a = some true) : findObj K C od name = some (.bind g a) := by
  obtain ⟨cd, hc⟩ := Option.isSome_iff_exists.mp hc
  unfold findObj
  rw [hc, Option.bind_some, ha, Option.bind_some]
  simp [hg, ht]
theorem cbx_classE {Q : Option Value → Shared → Prop} (hga : findIn K (.ref D) "__getattribute__" = some (some (.builtin "BaseException.__getattribute__"))) (hgt : findIn K (.ref D) "__getattr__" = some none) (hsub : subIn K (.ref D) (.type "BaseException") = some true)
    (hdct : hasDictIn K D = true) (ha : findIn K (.ref D) "__class__" = some (some (.builtin "object.__class__")))
    (hn : specialIn K (.builtin "object.__class__") "__get__" = some (some (.builtin "getset_descriptor.__get__"))) (htk : takesIn K (.builtin "object.__class__") = some true) (hm : mroIn K D (.type "object") = some true)
    (X : K.In s.heap) (I : InstAt s.heap x ox D od) (h : Q (some (.ref D)) { s with toks := s.toks + 1 }) : wpAny (model prog w) A (getAttr? (.ref x) "__class__") Q E s := by
  have hf : findObj K D od "__class__" = some (.bind (.builtin "getset_descriptor.__get__") (.builtin "object.__class__")) := cbx_find (by obtain ⟨cd, hc, _⟩ := any_some hdct; rw [hc]; rfl) ha hn htk
  obtain ⟨hp, g, d, t, os⟩ := s
  have L0 := I.type (M := model prog w)
  have L1 := looks_findIn (M := model prog w) X hga
  have L2 := looks_findIn (M := model prog w) X hgt
  have L3 := looks_find (M := model prog w) X I hf
  have sub : Looks (model prog w) hp (isInstance (.ref x) (.type "BaseException")) true := L0.andThen (looks_subIn X hsub)
  have hx0 : (false && onTheHeap (Value.builtin "BaseException.__getattribute__")) = false := rfl
  have hx2 : (Value.builtin "BaseException.__getattribute__" == Value.builtin "object.__getattribute__") = false := by decide +kernel
  have hx1 : (onTheHeap (Value.ref D) && Value.builtin "BaseException.__getattribute__" == Value.builtin "object.__getattribute__") = false := by rw [hx2]; rfl
  unfold getAttr? getAttrBy? getAttrBy
  refine wpAny_bind (wpAny_mkText (wpAny_bind (wpAny_attempt (wpAny_holding (wpAny_bind (L0.at (wpAny_bind (L1.at ?_))))))))
  show wpAny _ _ (if (onTheHeap (Value.ref D) && Value.builtin "BaseException.__getattribute__" == Value.builtin "object.__getattribute__") = true then _ else _) _ _ _
  rw [hx1, if_neg Bool.false_ne_true]
  unfold getAttrByItsOwn hookBefore
  refine wpAny_bind ?_
  rw [if_pos (show onTheHeap (Value.ref D) = true from rfl)]
  refine L2.at ?_
  refine wpAny_bind (wpAny_attempt (wpAny_holding ?_))
  unfold callGetattribute
  rw [hx0, if_neg Bool.false_ne_true]
  unfold boundAndCalled
  rw [PySem.F.excAttr_ValueError.ga.bind (.ref x)]
  refine wpAny_bind (wpAny_pure ?_)
  show wpAny _ _ (call (.builtin "BaseException.__getattribute__") [.ref x, .str "__class__" t]) _ _ _
  refine wpAny_call (codeAny_call_builtin PySem.F.excAttr_ValueError.ga.plain PySem.F.entry_bexc_ga ?_)
  refine @check_slot (model prog w) _ _ ⟨hp, g, d, t + 1, os⟩ "BaseException.__getattribute__" "BaseException" "__getattribute__" (.ref x) [.str "__class__" t] [] _ (by decide +kernel) (by decide +kernel) sub (PySem.F.args_bexc_ga (.ref x) (.str "__class__" t)) ?_
  unfold Builtin.«object.__getattribute__»
  refine wpAny_bind (wpAny_of_eq (a := ((Value.ref x : Value), [Value.str "__class__" t])) (by first | rfl | (simp only [slotArgs]; rfl)) ?_)
  refine wpAny_bind (wpAny_pure (wpAny_bind (L0.at (wpAny_bind (L3.at ?_)))))
  show wpAny _ _ (holding [Value.builtin "object.__class__"] (call (.builtin "getset_descriptor.__get__") [.builtin "object.__class__", .ref x, .ref D]) >>= ret) _ _ _
  refine wpAny_bind (wpAny_holding (wpAny_call (class_get (s := ⟨hp, g, d, t + 1, os⟩) (ox := ox) (od := od) X I hm ?_)))
  refine wpAny_pure ?_
  show wpAny _ _ (handedOut (.ref D)) _ _ _
  rw [handedOut_of (v := .ref D) rfl]
  first
    | exact wpAny_pure (wpAny_pure h)
    | exact wpAny_pure h
    | exact wpAny_pure (wpAny_bind (wpAny_pure (wpAny_pure h)))
theorem cbx_kitx (hga : findIn K (.ref D) "__getattribute__" = some (some (.builtin "BaseException.__getattribute__"))) (hgt : findIn K (.ref D) "__getattr__" = some none) (hsub : subIn K (.ref D) (.type "BaseException") = some true) (hdct : hasDictIn K D = true) (ha : findIn K (.ref D) "__class__" = some (some (.builtin "object.__class__")))
    (hn : specialIn K (.builtin "object.__class__") "__get__" = some (some (.builtin "getset_descriptor.__get__"))) (htk : takesIn K (.builtin "object.__class__") = some true) (hm : mroIn K D (.type "object") = some true) :
    KitX K (.ref x) (.ref D) (fun h => InstAt h x ox D od) where
  ty := fun _ _ _ I => I.type
  it := fun _ _ X _ => by
    obtain ⟨cdD, hcD, _⟩ := any_some hdct
    unfold clsIn at hcD
    split at hcD
    · rename_i c' d' cd' sl' ho
      intro A' Q' E' s' k q
      unfold isType loadHead
      exact wpAny_bind (wpAny_loadPart (k _ _ (X _ _ ho)) (wpAny_pure q))
    · cases hcD
  ne := fun h tp dd its n sl X htp => by
    obtain ⟨cdD, hcD, _⟩ := any_some hdct
    refine Bool.eq_false_iff.mpr fun q => ?_
    have e : D = tp := Value.ref.inj (beq_iff_eq.mp q)
    subst e
    unfold clsIn at hcD
    split at hcD
    · rename_i c' d' cd' sl' ho
      have z := (X _ _ ho).symm.trans htp
      cases z
    · cases hcD
  ca := fun X I k => cbx_classE hga hgt hsub hdct ha hn htk hm X I k
end
end PySem.W
namespace Cb
open PySem PySem.Spec PyProof.Rows L2
variable {pin : Pin}

/-- the one that is held -/
abbrev Pin.one (a : Addr) (c : Value) (d : Option Addr) : Pin := ⟨fun a' c' d' => a' = a ∧ c' = c ∧ d' = d⟩
/-- the context holds them -/
def PinX [Pin] (X : Cx) : Prop := ∃ p ∈ X.pn, (∃ vs, p.2.data = .fields vs) ∧ ∀ a c d, Pin.is a c d → a = p.1 ∧ Zc c d p.2
/-- its dict -/
def DicX (H : Hp) (d : Option Addr) : Prop := d = none ∨ ∃ dx fs, d = some dx ∧ H dx = some (.xd fs)
section
variable {X : Cx} {pins : List (Addr × Obj)} {σ : St} {H : Hp} {s : Shared}
theorem inst_at (hp : PinX X) (I : Inv X pins σ H s) {a D : Addr} {d : Option Addr} (h : Pin.is a (.ref D) d) (hd : DicX H d) : ∃ oe od, PySem.W.InstAt s.heap a oe D od ∧
    ∀ dx fs, d = some dx → H dx = some (.xd fs) → ∃ (mA : Str → Option Value) (ho : Obj), od = some ho ∧ (∀ f, RelO (fs.lookup f) (mA f)) ∧ ∀ f, PySem.W.lookIn f ho = some (mA f) := by
  obtain ⟨⟨a', oe⟩, hm, ⟨vs, hv⟩, hp⟩ := hp
  obtain ⟨rfl, hz⟩ := hp a _ d h
  obtain ⟨hget, _⟩ := I.pin (a, oe) (List.mem_append_left _ hm)
  obtain ⟨oc, od, oda, osl⟩ := oe
  obtain ⟨h1, h2⟩ := hz
  dsimp only at h1 h2 hv
  subst h1 h2 hv
  rcases hd with rfl | ⟨dx, fs, rfl, ea⟩
  · exact ⟨_, none, ⟨hget, rfl, rfl, trivial⟩, fun dx fs z => by cases z⟩
  · have hx : ObjOk X.prog X.w H s.heap dx (.xd fs) := I.hok dx _ ea
    obtain ⟨mA, hns, hr⟩ := hx
    obtain ⟨ho, e1, hl⟩ := lookIn_ns hns
    refine ⟨_, some ho, ⟨hget, rfl, rfl, e1⟩, fun dx' fs' z q => ?_⟩
    cases z
    rw [ea] at q
    cases q
    exact ⟨mA, ho, rfl, hr, hl⟩
end

/-! ### e.f -/
def tXg [Pin] (K : PySem.W.Frag) (f : Str) (te : TE) : TE := fun σ H Q => te σ H fun x H1 => ∃ (a C dd : Addr) (fs : List (Str × V)) (v : V), x = .ref a ∧ Pin.is a (.ref C) (some dd) ∧ ExcC K C ∧ PySem.W.findIn K (.ref C) f = some none ∧ H1 dd = some (.xd fs) ∧ fs.lookup f = some v ∧ Q v H1
theorem pe_xg {X : Cx} {e : Expr} {te : TE} {pos : Pos} {n : Str} (hp : PinX X) (he : PE X e te) (hb : attributeBase e n X.env (eval e X.env) = eval e X.env) : PE X (.Attribute e n pos) (tXg X.K n te) := by
  refine ⟨fun pins s σ H Q I h => ?_⟩
  refine attr_of hb (thn (he.run pins s σ H _ I h) fun u s1 hh => ?_)
  obtain ⟨x, H1, I1, rx, a, C, dd, fs, v, ex, hpi, T, hno, ea, l, q⟩ := hh
  subst ex
  obtain rfl : u = Value.ref a := rx
  obtain ⟨oe, od, J, hd⟩ := inst_at hp I1 hpi (.inr ⟨dd, fs, rfl, ea⟩)
  obtain ⟨mA, ho, rfl, hr, hl⟩ := hd dd fs rfl ea
  obtain ⟨u, hu, ru⟩ := RelO.some_of (v := v) (o := mA n) (by rw [← l]; exact hr n)
  exact HandSPX.exc_get I1.kIn J T.hg T.hk T.hs (PySem.W.findObj_own T.hd hno rfl (by rw [hl, hu])) (handed_of ru) ⟨v, H1, I1.tok _, ru, q⟩
theorem ei_xf {X : Cx} {W : WX} {e : Expr} {fa : Ex} {P : Pg} {pos : Pos} {f : String} (O : POk X.K P) (hp : PinX X) (ha : EI X W e fa) (hb : attributeBase e (Str.ofString f) X.env (eval e X.env) = eval e X.env := by rfl) : EI X W (.Attribute e (Str.ofString f) pos) (eXf P fa f) := by
  refine peI (pe_xg hp ha hb) fun σ H Q ⟨env, G, m, st, er, S, w⟩ => ?_
  refine ⟨env, G, m, st, er, S, w.bnd.imp fun x st1 G1 m1 H1 t1 S1 w1 v rv => ?_⟩
  split at w1
  · rename_i C fs xs
    split at w1
    · rename_i hc
      unfold R.of at w1
      split at w1
      · rename_i z ez
        cases rv with
        | exn h1 h2 h3 =>
          obtain ⟨hl, h2⟩ := h2
          rcases h2 with ⟨h2, _⟩ | ⟨dx, gs, rfl, hx, h4⟩
          · subst h2
            cases xs <;> simp [fldD] at ez
          · rename_i a vs
            have : ∃ j : Nat, fs[j]? = some f ∧ ∃ v, vs[j]? = some v ∧ Rp X.K m1 st1.length G1 v z := by
              exact fldD_at h3 ez
            obtain ⟨j, e1, v, e2, r3⟩ := this
            exact ⟨a, _, dx, gs, v, rfl, h1, O.exc _ hc.1, O.fld _ hc.2, S1.ex _ _ hx, h4 j f v e1 e2, w1.now S1 v r3⟩
      · exact w1.elim
    · exact w1.elim
  · exact w1.elim

/-! ### isinstance(e, ..) -/
def rIsX [Pin] (K : PySem.W.Frag) : List V → Hp → VK → Prop := fun xs H Q => ∃ (a D : Addr) (d : Option Addr) (c : V) (b : Bool), xs = [.ref a, c] ∧ Pin.is a (.ref D) d ∧ ExcC K D ∧ DicX H d ∧
  ((∃ u, ClsV c u ∧ PySem.W.kitOne K (.ref D) u = some b) ∨ (∃ tp cs us, c = .ref tp ∧ SqT K H tp cs ∧ Paired ClsV cs us ∧ PySem.W.kitAny K (.ref D) us = some b)) ∧ Q (.bl b) H
theorem call_isX {X : Cx} (hp : PinX X) : CallR X (.builtin "isinstance") (rIsX X.K) := by
  intro pins s σ H xs us Q I r h
  obtain ⟨a, D, d, c, b, rfl, hpi, C, hd, hc, q⟩ := h
  obtain ⟨u1, u2, rfl, r1, r2⟩ := vals2 r
  obtain rfl : u1 = Value.ref a := r1
  obtain ⟨oe, od, J, _⟩ := inst_at hp I hpi hd
  rcases hc with ⟨u, k, e⟩ | ⟨tp, cs, ws, rfl, hT, k, e⟩
  · have e2 := k.eq r2
    subst e2
    exact PySem.W.kia_one (PySem.W.cbx_kitx C.hg C.hk C.hs C.hd C.ha C.hn C.ht C.hm) I.kIn J e (fun z => nomatch z) fun tk => ⟨.bl b, H, I.tok tk, rfl, q⟩
  · cases (show u2 = Value.ref tp from r2)
    obtain ⟨its, rv, ⟨o, h1, h2, n, h3⟩, _⟩ := I.tuple hT
    have e3 := ClsV.all k rv
    subst e3
    obtain ⟨oc, od', dt, sl⟩ := o
    simp only at h2 h3
    subst h2 h3
    exact PySem.W.kia_tup (PySem.W.cbx_kitx C.hg C.hk C.hs C.hd C.ha C.hn C.ht C.hm) I.kIn J h1 e (fun z => nomatch z) fun tk => ⟨.bl b, H, I.tok tk, rfl, q⟩
theorem XF1.dic {G H : Hp} {dd : Option Addr} {ns : List String} {vs : List V} (s : Same G H) (h : XF1 G dd ns vs) : DicX H dd := by
  rcases h.2 with ⟨_, h⟩ | ⟨dx, fs, h1, h2, _⟩
  · exact .inl h
  · exact .inr ⟨dx, fs, h1, s _ _ h2⟩
theorem cs_isx {K : PySem.W.Frag} {P : Pg} (O : POk K P) : ClSem K (cIsx P) (rIsX K) := by
  intro G m st H vs xs z S rvs e Q q
  unfold cIsx at e
  split at e
  · rename_i C fs ys c' h
    obtain ⟨x, c, rfl, hx, rfl⟩ := map2 h
    obtain ⟨v, u, rfl, rv, ru⟩ := rp2 rvs
    have hx := view_else hx (fun xs z => by cases z)
    subst hx
    split at e
    · rename_i hC
      have e2 : (isiC P (.inr C) (view st c)).map D.bl = some z := e
      cases hi : isiC P (.inr C) (view st c) with
      | none => rw [hi] at e2; cases e2
      | some b =>
        rw [hi] at e2
        cases e2
        cases rv with
        | @exn a dd C ns vs ds h1 h2 h3 =>
          refine ⟨a, _, dd, u, b, rfl, h1, O.exc _ hC, h2.dic S.ex, ?_, q _ _ _ Tr.refl S (.bl _)⟩
          unfold isiC at hi
          split at hi
          · rename_i n hc
            have qc := view_else hc (fun xs z => by cases z)
            subst qc
            exact .inl (cls_of O ru hi)
          · rename_i C hc
            have qc := view_else hc (fun xs z => by cases z)
            subst qc
            exact .inl (cls_of O ru hi)
          · rename_i cs hc
            obtain ⟨a, us, rfl, h1, r1⟩ := v_tup ru hc
            split at hi
            · rename_i hall
              obtain ⟨ws, h2, h3⟩ := any_of O r1 (fun c hm => by
                have := List.all_eq_true.mp hall c hm
                exact Option.isSome_iff_exists.mp this) hi
              exact .inr ⟨a, us, ws, rfl, same_t S.ex h1, h2, h3⟩
            · cases hi
          · cases hi
    · cases e
  · cases e

/-! ### functions called within a suite -/
theorem L2H_units {k : Nat} {A : Around} (r : L2H.RoomH k A) : A.units + 64 < cLine := by have := r.un; omega
theorem ER.any {K : PySem.W.Frag} {m : Nat → Addr} {n : Nat} {G : Hp} {σ : St} {env : Env} (h : @ER Pin.no K m n G σ env) : ER K m n G σ env := ⟨h.1, fun i d e => let ⟨v, h1, h2⟩ := h.2 i d e; ⟨v, h1, Rp.any d v h2⟩⟩
structure HotOk (P : Program) (w : World) (K : PySem.W.Frag) (mg : Str → Option Value) (base : Heap) (k : Nat) (f : Addr) (fd : FuncData) (ps : List Str) (F : Fn) : Prop where
  run : ∀ (q : Pin) (A : Around) (outer : List PySem.Env) (s : Shared) (H : Hp) (args : Args) (us : List Value) (vs : List V) (Q : VK) (p : Addr × Obj), ((∃ vs, p.2.data = .fields vs) ∧ ∀ a c d, q.is a c d → a = p.1 ∧ Zc c d p.2) → L2H.RoomH k A → L2H.PinOk outer H s p → Env0 P w K mg base A outer s H → BindsTo s fd args (ps.zip us) → Vals vs us →
    @spI q K F ps.length vs H Q (fun _ _ _ => False) → codeAny (model P w) A (.call (.ref f) args) (CR (L2.CX P w) outer P w H s Q (fun _ _ _ => False)) s
abbrev cxX (P : Program) (w : World) (K : PySem.W.Frag) (mg : Str → Option Value) (base : Heap) (N : List Str) (qual : Str) (scope : Scope) (f : Addr) (cdv : Value) (A : Around) (outer : List PySem.Env) (s : Shared) (H : Hp) (p : Addr × Obj) : Cx :=
  L2H.cxH (L2.CX P w) P w K mg base N qual scope f cdv A outer s H (fun _ _ _ => False) p
section
variable {P : Program} {w : World} {K : PySem.W.Frag} {mg : Str → Option Value} {base : Heap} {x qual : Str} {params : Arguments} {body : List Stmt} {scope : Scope} {dvs : List V} {kws : List (Str × V)} {f : Addr} {fd : FuncData}
theorem hot_ok {fin : Nat → D → Sto → R D} (hf : ∀ q : Pin, @FinOk q fin) {N ps : List Str} {k : Nat} {b : Sx} (F : FunD K x qual params body scope dvs kws f fd) (S : FnScope N ps scope)
    (hbody : ∀ (q : Pin) (cdv : Value) (A : Around) (outer : List PySem.Env) (s : Shared) (H : Hp) (p : Addr × Obj), L2H.RoomH k (A.deeper (envOfC qual scope s.heap.objs.size f cdv)) → @PinX q (cxX P w K mg base N qual scope f cdv A outer s H p) →
      @BI q (cxX P w K mg base N qual scope f cdv A outer s H p) (fun _ _ _ _ => False) body b) :
    HotOk P w K mg base (k + 1) f fd ps (fnS fin ps.length N.length b) := by
  obtain ⟨oc, od, dV, kV, doc, pm, an, cdv, ct, osl, rfl, lk, hcd, _, _⟩ := F.ex
  refine ⟨fun q A outer s H args us vs Q p hq hr hpin e0 hb r hsp => ?_⟩
  have hl := spI.len _ _ _ _ hsp
  have KX : K.In s.heap := e0.mod.kin.keeps fun b o e => (e0.bs b o e).1
  have lim : s.heap.NoLimit := e0.mod.nolimit.keeps fun b o e => (e0.bs b o e).1
  have hkind : ∀ y ∈ ps.zip us, scope.names.lookup y.1 = some .local ∨ (scope.names.lookup y.1 = some .cell ∧ ((cellsFrom (s.heap.objs.size + 1) scope.names []).lookup y.1).isSome = true) := fun ⟨n, v⟩ hy => by
    rcases S.par n (List.of_mem_zip hy).1 with q | q
    · exact .inl q
    · exact .inr ⟨q, PySem.W.cellsFrom_some _ _ _ (.inl q)⟩
  refine codeAny_call_function hr.depth (KX _ _ lk) rfl S.co S.gen rfl (PySem.W.codeRec_of KX hcd) (hb _ _ _ _ ?_)
  refine wpAny_newFunctionEnv_cells S.kind hkind fun env he s1 x => ?_
  subst he
  refine ⟨lim.keeps x.toInCall.keep, codeAny_func ?_⟩
  have I : Inv (cxX P w K mg base N qual scope f cdv A outer s H p) [] (L2.start N vs) H s1 := L2H.inv_startH S hpin e0 hl r x
  have hB := hbody q cdv A outer s H p (hr.deeper _) ⟨p, by simp [L2H.cxH], hq.1, hq.2⟩
  refine wpAny_mono (hB.run [] s1 (L2.start N vs) H _ I (body_of (hf q) hsp)) (fun fl s' hs => ?_) fun e s' hs => hs
  have fin : ∀ {σ' : St} {H' : Hp} {v : V} {u : Value}, Inv (cxX P w K mg base N qual scope f cdv A outer s H p) [] σ' H' s' → RelV v u → Q v H' → CE outer P w H s Q u s' :=
    fun {σ' H' v u} J rv q => ⟨v, H', J.os, J.bare, J.base, J.hok, rv, q⟩
  cases fl with
  | ret u =>
    obtain ⟨v, σ', H', J, rv, q⟩ := hs
    exact fin J rv q
  | next =>
    obtain ⟨σ', H', J, q⟩ := hs
    exact fin (v := V.non) (u := Value.none) J rfl q
  | brk =>
    obtain ⟨_, _, _, q⟩ := hs
    exact False.elim q
  | cont =>
    obtain ⟨_, _, _, q⟩ := hs
    exact False.elim q
end
theorem room_suite {X : Cx} {k : Nat} {a : Addr} {pn : List (Addr × Obj)} (hr : Room k X.A) : L2H.RoomH k (X.suite a pn).A := ⟨hr.dp, hr.un⟩
structure HasX (P : Program) (w : World) (K : PySem.W.Frag) (mg : Str → Option Value) (base : Heap) (k : Nat) (x : Str) (f : Addr) (ps : List Str) (F : Fn) : Prop where
  ok : ∃ fd, HotOk P w K mg base k f fd ps F ∧ Binds K fd ps []
  gl : mg x = some (.ref f)
  kp : PySem.W.keepIn K (.ref f) = true
section
variable {X : Cx} {W : WX} {x : Str} {ps : List Str} {k : Nat} {f : Addr} {F : Fn} {e : Expr} {es : List Expr} {fas : Ax} {p pos : Pos}
theorem run_hot {fd : FuncData} {pins : List (Addr × Obj)} {σ : St} {H : Hp} {s : Shared} {Q : VK} {us : List Value} {vs : List V} (F1 : HotOk X.prog X.w X.K X.mg X.base k f fd ps F) (hr : L2H.RoomH k X.A) (hc : PinX X) (hb : Binds X.K fd ps [])
    (I : Inv X pins σ H s) (r : Vals vs us) (h : spI X.K F ps.length vs H Q (fun _ _ _ => False)) : wpAny (model X.prog X.w) X.A (call (.ref f) us) (EP X pins σ Q) X.xe s := by
  obtain ⟨p, hp, hq⟩ := hc
  have hl : us.length = ps.length := by rw [← r.length]; exact spI.len _ _ _ _ h
  have b := hb s us I.kIn (by rw [List.append_nil]; exact hl)
  rw [List.append_nil] at b
  have P1 := I.pin p (List.mem_append_left _ hp)
  have hpin : L2H.PinOk X.stack H s p := ⟨P1.1, P1.2.1, fun hm => (List.mem_cons.mp (I.stkSub p.1 hm)).elim P1.2.2.1 P1.2.2.2.1, P1.2.2.2.2⟩
  refine wpAny_call (codeAny_mono (F1.run pin X.A X.stack s H ⟨us, []⟩ us vs Q p hq hr hpin I.env0 b r h) fun r s' hq => ?_)
  cases r with
  | error e =>
    obtain ⟨a, B, H', cls, d, _, _, _, _, _, _, _, z⟩ := (show L2.CX X.prog X.w X.stack H s (fun _ _ _ => False) e s' from hq)
    exact z.elim
  | ok fl =>
    cases fl with
    | ret u => exact I.after hq
    | next => exact False.elim hq
    | brk => exact False.elim hq
    | cont => exact False.elim hq
/-- a call of such a def -/
theorem ei_x {j : Nat} (h : HasX X.prog X.w X.K X.mg X.base j x f ps F) (hr : L2H.RoomH k X.A) (hc : PinX X) (hj : j ≤ k) (ha : AI X (fun _ _ _ _ => False) (e :: es) fas) (hn : AxN ps.length fas) (hg : Gl X x := by rfl) (hdb : (x == ("__debug__" : Str)) = false := by decide)
    (he : starEach (e :: es) X.env = (false, eval e X.env) :: starEach es X.env := by rfl) (hpl : (backTo pos (starEach es X.env)).any (·.1) = false := by rfl) : EI X (fun _ _ _ _ => False) (.Call (.Name x p) (e :: es) [] pos) (eCall F fas) := by
  obtain ⟨⟨fd, h1, h2⟩, h3, h4⟩ := h
  refine ⟨fun pins s σ H Q I h => ?_⟩
  have h : tE X.K (fun _ _ _ _ => False) (eCallG F (fun xs _ => xs) fas aNil) σ H Q := by
    obtain ⟨env, G, m, st, er, S, w⟩ := h
    exact ⟨env, G, m, st, er, S, w⟩
  have h := args_key hn axn_nil h
  refine wpAny_Call_Name_kw (ld_glob I hg h3 ?_ hdb)
  refine PySem.W.callWith_K (h₀ := X.base) I.ok.mod.kin h4 (thn (ha.run pos pins s σ H _ I h) fun us s1 ⟨vs, H1, I1, r, q⟩ => ⟨I1.kIn, ?_⟩) he hpl
  obtain ⟨env, G0, m0, st0, er, S, w⟩ := q
  obtain ⟨l1, _, ds, es', st, G', m, S', r1, _, w⟩ := (show Wp X.K G0 m0 st0.length (.ok [] st0) _ _ from w).now S [] .nil
  exact run_hot h1 (hr.mono hj) hc h2 I1 r ⟨G', m, st, ds, S', r1, r1.length.symm.trans l1, w⟩
end

/-! ### try: body, except C0 as n: suite -/
section
variable {X : Cx} {Wout : WX} {x n : Str} {C0 : String} {i : Nat} {body suite : List Stmt} {b₀ : Stmt} {np pos pos' : Pos} {fb fs : Sx} {sub : String → Option Bool}
theorem si_try (hs : X.stack = X.env :: X.outer) (hf : X.env.frame = some X.env.locals) (hN : X.N.Nodup) (hi : X.N[i]? = some n) (hln : X.env.kindOf n = some .local) (hc : Names X x (.ref (gaC X.K C0))) (tk : Takes X Wout)
    (hsub : ∀ C b, sub C = some b → PySem.W.exmOne X.K (.ref (gaC X.K C)) (.ref (gaC X.K C0)) = some b)
    (hb : ∀ (W : WX) (pn : List (Addr × Obj)) (xe : Value → Shared → Prop), Takes (X.tr pn xe) W → PassesOwn (model X.prog X.w) X.A X.env xe → @BI Pin.no (X.tr pn xe) W body fb)
    (hsu : ∀ (q : Pin) (a : Addr) (pn : List (Addr × Obj)), @PinX q (X.suite a pn) → @BI q (X.suite a pn) (fun _ _ _ _ => False) (b₀ :: suite) fs) :
    @SI Pin.no X Wout (.Try body [.ExceptHandler (some (.Name x np)) (some n) (b₀ :: suite) pos'] [] [] pos) (sTry fb sub i fs) := by
  refine psI (ps_try_as hs hf hN hi hln hc tk (tb := fun W => @tS Pin.no X.K W fb) (ts := fun a cls d => @tS (Pin.one a cls d) X.K (fun _ _ _ _ => False) fs) (fun W pn xe tk hp => hb W pn xe tk hp)
    (fun a oe cls d pn hz hd => hsu (Pin.one a cls d) a _ ⟨(a, oe), List.mem_cons_self, hd, fun a' c' d' ⟨h1, h2, h3⟩ => ⟨h1, by rw [h2, h3]; exact hz⟩⟩)) fun D σ H h => ?_
  obtain ⟨env, G, m, st, er, S, w⟩ := h
  refine ⟨env, G, m, st, er, S, ?_⟩
  unfold sTry at w
  cases hbdy : fb env st with
  | ok fl st1 =>
    rw [hbdy] at w
    exact w
  | bad =>
    rw [hbdy] at w
    exact w
  | exc C fs' xs env1 st1 =>
    rw [hbdy] at w
    dsimp only at w
    intro dd vs σ1 G1 m1 H1 t1 S1 x1 r1 er1
    cases hk : sub C with
    | none =>
      rw [hk] at w
      exact w.elim
    | some b =>
      rw [hk] at w
      refine ⟨b, hsub _ _ hk, fun hb a na => ?_, fun hb => ?_⟩
      · subst hb
        dsimp only at w
        refine ⟨env1.set i (some (.exn C fs' xs)), G1, m1, st1, @ER.set (Pin.one a _ dd) _ _ _ _ _ _ _ _ i er1.any (@Rp.exn (Pin.one a _ dd) _ _ _ _ _ _ _ _ _ _ ⟨rfl, rfl, rfl⟩ x1 (r1.up (Same.refl _))), S1, ?_⟩
        cases hsu2 : fs (env1.set i (some (.exn C fs' xs))) st1 with
        | bad =>
          rw [hsu2] at w
          exact w.elim
        | exc C2 fs2 xs2 env2 st2 =>
          rw [hsu2] at w
          exact w.elim
        | ok fl st2 =>
          rw [hsu2] at w
          cases fl with
          | rt d =>
            dsimp only at w
            split at w
            · rename_i hg
              intro G2 m2 H2 t2 S2 v rv
              exact w G2 m2 H2 (t1.trans t2) S2 v ((Rp.gnd (m' := fun _ => 0) d v hg rv).up (Same.refl _))
            · exact w.elim
          | _ => exact w.elim
      · subst hb
        dsimp only at w
        exact w dd vs σ1 G1 m1 H1 t1 S1 x1 r1 er1
end
def subB (K : PySem.W.Frag) (C0 : String) (l : List (String × Bool)) : Bool := l.all fun p => decide (PySem.W.exmOne K (.ref (gaC K p.1)) (.ref (gaC K C0)) = some p.2)
theorem subB_ok {K : PySem.W.Frag} {C0 : String} : ∀ {l : List (String × Bool)}, subB K C0 l = true → ∀ C b, subT l C = some b → PySem.W.exmOne K (.ref (gaC K C)) (.ref (gaC K C0)) = some b
  | [], _, C, b, e => by cases e
  | (D, r) :: l, h, C, b, e => by
    obtain ⟨h1, h2⟩ := Bool.and_eq_true_iff.mp (show (decide (PySem.W.exmOne K (.ref (gaC K D)) (.ref (gaC K C0)) = some r) && subB K C0 l) = true from h)
    unfold subT at e
    split at e
    · rename_i hd
      cases e
      subst hd
      exact of_decide_eq_true h1
    · exact subB_ok h2 C b e

section
variable {X : Cx} {W : WX} {a b : Expr} {fas : Ax} {p pos : Pos} {P : Pg}
theorem ei_isx (O : POk X.K P) (hx : PinX X) (hm : X.mg "isinstance" = none) (ha : AI X W [a, b] fas) (hg : Gl X "isinstance" := by rfl) (he : starEach [a, b] X.env = (false, eval a X.env) :: starEach [b] X.env := by rfl) (hpl : (backTo pos (starEach [b] X.env)).any (·.1) = false := by rfl) :
    EI X W (.Call (.Name "isinstance" p) [a, b] [] pos) (eC1 (cIsx P) fas) := ei_callB (call_isX hx) (cs_isx O) hg hm PyProof.Rows.Boot.«isinstance» ha (by decide) (by decide) he hpl
theorem ei_tyVE (hm : X.mg "ValueError" = none) (hg : Gl X "ValueError" := by rfl) : EI X W (.Name "ValueError" p) (eC (.ty "ValueError")) := ei_ty "ValueError" hg hm PyProof.Rows.Boot.«ValueError»
end
end Cb

set_option Elab.async false
set_option linter.all false
set_option maxRecDepth 100000
set_option maxHeartbeats 4000000
/-! CbRaise: an own exception whose __init__ says super().__init__(text), then self.f = f. -/
namespace Cb
open PySem PySem.Spec PyProof.Rows L2
variable {pin : Pin}

/-- what is wanted of the class C, of its __init__ at fI -/
structure ExI (K : PySem.W.Frag) (fl : Str) (C fI : Addr) (nm qual : Str) (params : Arguments) (body : List Stmt) (scope : Scope) (fd : FuncData) : Prop where
  fn : ∃ (oc : Value) (od : Option Addr) (osl : Array (Option Value)) (kV doc pm : Value) (an : Option Addr) (cda cc : Addr) (ct : Value), fd = PySem.W.fnX nm qual params body scope [("__class__", cc)] .none kV doc pm an (.ref cda) ct ∧
    K.lookup fI = some ⟨oc, od, .func fd, osl⟩ ∧ PySem.W.codeIn K (.ref cda) qual = true ∧
    (∃ (ccl : Value) (cdd : Option Addr) (vs : Array Value) (ccs : Array (Option Value)) (tf : Tok), K.lookup cda = some ⟨ccl, cdd, .fields vs, ccs⟩ ∧ vs[2]? = some (.str fl tf)) ∧ ∃ cl cld csl, K.lookup cc = some ⟨cl, cld, .cell (some (.ref C)), csl⟩
  oex : OexC K C
  mro : PySem.W.mroIn K C (.ref C) = some true
  sup : PySem.W.ks_superIn K C C "__init__" = some (some (.builtin "ValueError.__init__"))
  ve : PySem.W.subIn K (.ref C) (.type "ValueError") = some true
  opq : PySem.W.nsIn K cStatics "thirdparty.any" = some none
  iC : PySem.W.findIn K (.ref C) "__init__" = some (some (.ref fI))
  tI : PySem.W.typeIn K (.ref fI) = some (.type "function")
/-- what is wanted of the program: its file's name, no own super -/
class SupP (P : Program) (fl : Str) : Prop where
  file : (P.main.file : Str) = fl
  top : (P.main.scope.names.lookup ("super" : Str)).isSome = false
/-- the context of its body -/
abbrev cxI (P : Program) (w : World) (K : PySem.W.Frag) (mg : Str → Option Value) (base : Heap) (N : List Str) (nm qual : Str) (params : Arguments) (body : List Stmt) (scope : Scope) (cc cda f : Addr) (A : Around) (outer : List PySem.Env) (s : Shared) (H : Hp) (E : XK) : Cx :=
  NdefX.ncx (L2.CX P w) P w K mg base N ⟨nm, qual, params, body, scope, [("__class__", cc)], cda⟩ f A outer s H E
/-- self.f = f, one behind the other -/
def tFl (K : PySem.W.Frag) : List String → Nat → TS
  | [], _ => tNext
  | f :: r, i => tSeq (tOst K (Str.ofString f) (tVar 0) (tVar i)) (tFl K r (i + 1))
/-- its promise: the text tx, then the fields t -/
def spE (K : PySem.W.Frag) (C : Addr) (N ps : List Str) (tx : TE) (t : TS) : Sp := fun vs H Q _ => vs.length = ps.length ∧ ∃ a ws, vs = .ref a :: ws ∧ H a = some (exo a C none) ∧
  tx (NdefX.startF N vs [none]) H fun x H1 => [x].length ≤ 1 ∧ H1 a = some (exo a C none) ∧ t { nx := fun _ H' => Q .non H', rt := Q } (NdefX.startF N vs [none]) H1
section
variable {P : Program} {w : World} {K : PySem.W.Frag} {mg : Str → Option Value} {base : Heap} {fl nm qual : Str} {params : Arguments} {rest : List Stmt} {scope : Scope} {C fI : Addr} {fd : FuncData} {N ps : List Str} {k : Nat} {te : Expr} {p0 p1 p2 p3 p4 : Pos} {tx : TE} {t : TS} {ar : Arg}
theorem exi_fn (X0 : ExI K fl C fI nm qual params (.Expr (.Call (.Attribute (.Call (.Name "super" p0) [] [] p1) "__init__" p2) [te] [] p3) p4 :: rest) scope fd) (SP : SupP P fl) (hsu : mg "super" = none) (S : NdefX.NScope N ps ["__class__"] scope)
    (hp : (params.posonlyargs ++ params.args).head? = some ar) (hps : ps[0]? = some ar.arg) (hks : scope.names.lookup ("super" : Str) = some .globalImplicit)
    (htx : ∀ (cc cda : Addr) (A : Around) (outer : List PySem.Env) (s : Shared) (H : Hp) (E : XK), PE (cxI P w K mg base N nm qual params (.Expr (.Call (.Attribute (.Call (.Name "super" p0) [] [] p1) "__init__" p2) [te] [] p3) p4 :: rest) scope cc cda fI A outer s H E) te tx)
    (hst : ∀ (cc cda : Addr) (A : Around) (outer : List PySem.Env) (s : Shared) (H : Hp) (E : XK), starEach [te] (cxI P w K mg base N nm qual params (.Expr (.Call (.Attribute (.Call (.Name "super" p0) [] [] p1) "__init__" p2) [te] [] p3) p4 :: rest) scope cc cda fI A outer s H E).env = [(false, eval te (cxI P w K mg base N nm qual params (.Expr (.Call (.Attribute (.Call (.Name "super" p0) [] [] p1) "__init__" p2) [te] [] p3) p4 :: rest) scope cc cda fI A outer s H E).env)])
    (hev : ∀ (cc cda : Addr) (A : Around) (outer : List PySem.Env) (s : Shared) (H : Hp) (E : XK), ∃ pl : Sem Bool, eval (.Call (.Attribute (.Call (.Name "super" p0) [] [] p1) "__init__" p2) [te] [] p3) (cxI P w K mg base N nm qual params (.Expr (.Call (.Attribute (.Call (.Name "super" p0) [] [] p1) "__init__" p2) [te] [] p3) p4 :: rest) scope cc cda fI A outer s H E).env = (do
      let ov ← attributeBase (.Call (.Name "super" p0) [] [] p1) "__init__" (cxI P w K mg base N nm qual params (.Expr (.Call (.Attribute (.Call (.Name "super" p0) [] [] p1) "__init__" p2) [te] [] p3) p4 :: rest) scope cc cda fI A outer s H E).env (eval (.Call (.Name "super" p0) [] [] p1) (cxI P w K mg base N nm qual params (.Expr (.Call (.Attribute (.Call (.Name "super" p0) [] [] p1) "__init__" p2) [te] [] p3) p4 :: rest) scope cc cda fI A outer s H E).env)
      standAt p2.atName
      let (f, first) ← holding [ov] (getMethod ov "__init__" pl)
      callWith p3 f first (backTo p3 (starEach [te] (cxI P w K mg base N nm qual params (.Expr (.Call (.Attribute (.Call (.Name "super" p0) [] [] p1) "__init__" p2) [te] [] p3) p4 :: rest) scope cc cda fI A outer s H E).env)) []))
    (hrest : ∀ (cc cda : Addr) (A : Around) (outer : List PySem.Env) (s : Shared) (H : Hp) (E : XK), PSs (cxI P w K mg base N nm qual params (.Expr (.Call (.Attribute (.Call (.Name "super" p0) [] [] p1) "__init__" p2) [te] [] p3) p4 :: rest) scope cc cda fI A outer s H E) rest t) :
    FnOk P w K mg base (L2.CX P w) (k + 1) fI fd ps (spE K C N ps tx t) := by
  obtain ⟨oc, od, osl, kV, doc, pm, an, cda, cc, ct, rfl, lk, hcd, ⟨ccl, cdd, cvs, ccs, tf, lcd, hvs⟩, cl, cld, csl, lcc⟩ := X0.fn
  refine ⟨fun vs H Q E h => h.1, fun A outer s H args us vs Q E hr e0 hb r hsp => ?_⟩
  obtain ⟨hl, a, ws, rfl, ea, hsp⟩ := hsp
  have KX : K.In s.heap := e0.mod.kin.keeps fun b o e => (e0.bs b o e).1
  have lim : s.heap.NoLimit := e0.mod.nolimit.keeps fun b o e => (e0.bs b o e).1
  have hcc : H cc = none := (e0.bs _ _ (e0.mod.kin _ _ lcc)).2
  refine codeAny_call_function hr.depth (KX _ _ lk) rfl S.co S.gen rfl (PySem.W.codeRec_of KX hcd) (hb _ _ _ _ ?_)
  refine wpAny_newFunctionEnv S.nocell (fun ⟨n, _⟩ hy => S.par n (List.of_mem_zip hy).1) (fun h₁ hns hsb => ⟨lim.fresh _ hsb, ?_⟩) S.kind
  have kp : ∀ b o, s.heap.get? b = some o → h₁.get? b = some o := fun b o e => hsb.extBut b o (Nat.ne_of_lt (Heap.lt_size e)) (Heap.get?_push_of_some _ e)
  have Cc : NdefX.CellsAt [("__class__", cc)] ["__class__"] [none] s.heap H := by
    have one : ∀ {y : Str} {c : Addr}, List.lookup y [(("__class__" : Str), cc)] = some c → y = "__class__" ∧ c = cc := fun {y c} e => by
      have hm := PySem.mem_of_lookup e
      have hm : (y, c) = (("__class__" : Str), cc) := by simpa using hm
      cases hm
      exact ⟨rfl, rfl⟩
    refine ⟨rfl, fun y c e => ?_, fun x y c e1 e2 => ?_, fun i y e => ?_⟩
    · obtain ⟨rfl, rfl⟩ := one e
      exact ⟨hcc, _, _, KX _ _ lcc, rfl⟩
    · rw [(one e1).1, (one e2).1]
    · cases i with
      | zero =>
        have e : ("__class__" : Str) = y := by simpa using e
        subst e
        exact ⟨cc, rfl, fun v z => by simp at z⟩
      | succ i => simp at e
  have I0 : Inv (cxI P w K mg base N nm qual params (.Expr (.Call (.Attribute (.Call (.Name "super" p0) [] [] p1) "__init__" p2) [te] [] p3) p4 :: rest) scope cc cda fI A outer s H E) [] (NdefX.startF N (.ref a :: ws) [none]) H { s with heap := h₁, toks := s.toks + (ps.zip us).length } :=
    NdefX.inv_startN (F := ⟨nm, qual, params, _, scope, [("__class__", cc)], cda⟩) S hr.hd e0 hl r Cc hns kp
  have K1 : K.In h₁ := KX.keeps kp
  refine PySem.ks_codeAny_funcAt (PySem.ks_wpAt_execs_cons ?_)
  obtain ⟨pl, hev⟩ := hev cc cda A outer s H E
  refine PySem.ks_wpAt_Expr_any (PySem.ks_wpAt_MethodCall ?_ hev) (by show (scope.kind == .module && _) = false; rw [S.kind]; rfl) rfl
  have hkc : scope.names.lookup ("__class__" : Str) = some .free := S.frk _ (List.mem_singleton.mpr rfl)
  have hka : scope.names.lookup ar.arg = some .local := S.par _ (List.mem_of_getElem? hps)
  have hv : (ps.zip us).reverse.lookup ar.arg = some (.ref a) := by
    have ndP : ps.Nodup := by
      have q := S.nd.sublist (List.take_sublist (ps.length + (["__class__"] : List Str).length) N)
      rw [S.pre] at q
      exact (List.nodup_append.mp q).1
    cases r with
    | @cons _ u0 _ ur ra rw' =>
      obtain rfl : u0 = Value.ref a := ra
      exact NdefX.zip_look (i := 0) ndP hps rfl
  refine PySem.ks_wpAt_super_base hks hkc (by decide) rfl (K1 _ _ lk) rfl hp rfl (K1 _ _ lcd) rfl hvs (by rw [SP.file]; exact beq_self_eq_true _) SP.top ?_
  obtain ⟨mb, hb1, hb2⟩ := I0.mod.blt
  refine PySem.W.ks_loadName_global S.kind hks (Calls.loadGlobal_builtin (I0.mod.glob.keeps I0.bk) hsu (hb1.keeps I0.bk) ((hb2 _ (by decide)).trans (show bootBuiltins "super" = some (.type "super") from PyProof.Rows.Boot.«super»)) ⟨rfl, ?_⟩)
  refine wpAny_loadName_free S.kind hkc rfl ⟨_, K1 _ _ lcc, rfl⟩ ?_
  refine wpAny_loadName_local S.kind hka hns hv ?_
  obtain ⟨cnm, cq, cN, cbs, cbm, csn, csub, cab, ccol, cdd0, k0, k1, k2, k3, k5, hC, hbm⟩ := X0.oex.cls
  refine PySem.ks_wpAny_isType_cls (K1 _ _ hC) rfl ⟨rfl, ?_⟩
  obtain ⟨t1, ho⟩ := exo_at I0.hok ea
  refine PySem.ks_wpAny_call_super (K1 _ _ hC) rfl ho rfl (fun c z => nomatch z) (PySem.W.looks_mroIn K1 X0.mro) fun h' eso ks => ?_
  have K2 : K.In h' := K1.keeps ks
  have IA : PySem.W.InstAt h' a { cls := .ref C, dict := none, data := .fields #[.ref t1, .none, .none, .none, .bool false, .none] } C none := ⟨ks _ _ ho, rfl, rfl, trivial⟩
  have hI : PySem.W.Looks (model P w) h' (isInstance (.ref a) (.type "ValueError")) true := IA.type.andThen (PySem.W.looks_subIn K2 X0.ve)
  have hcl : PySem.W.clsIn K C = some { name := cnm, bases := cbs, mro := .ref C :: cbm, ns := cN, qualname := cq, hasDict := true, slotNames := csn, subclasses := csub, abstract := cab, collection := ccol, hasDel := false } := by unfold PySem.W.clsIn; rw [hC] <;> rfl
  have hm := X0.sup
  unfold PySem.W.ks_superIn at hm
  rw [hcl] at hm
  refine PySem.W.kxs_getMethod PySem.W.kxs_ValueError eso (PySem.W.looks_opaque K2 X0.opq) (l₀ := .ref C :: cbm) (fun A Q E s k q => wpAny_bind ((PySem.W.looks_clsIn K2 hcl) A _ E s k (wpAny_pure q))) rfl K2 hm hI (PySem.W.ks_ne K2 IA hcl) (by decide) ?_
  have I1 := I0.kept (t' := s.toks + (ps.zip us).length) ks
  have I2 := I1.kept (h' := h'.push (PySem.W.kxs_mw "ValueError.__init__" a)) (t' := s.toks + (ps.zip us).length + 1) (fun b o e => Heap.get?_push_of_some _ e)
  have hu : (h'.push (PySem.W.kxs_mw "ValueError.__init__" a)).get? h'.objs.size = some (PySem.W.kxs_mw "ValueError.__init__" a) := Heap.get?_push_size _ rfl
  have f2 := I1.fpOk (H' := H) (Nat.le_refl _) (I1.hok.fresh (Nat.le_refl _))
  have I3 := I2.pinned (fp := [h'.objs.size]) (fun b hb => by
    obtain rfl : b = h'.objs.size := by simpa using hb
    exact f2) (fun b hb => by
    obtain rfl : b = h'.objs.size := by simpa using hb
    exact ⟨_, hu, fun v z => nomatch z⟩)
  have hst := hst cc cda A outer s H E
  have ha := (pa_cons (htx cc cda A outer s H E) pa_nil hst).run p3 _ _ (NdefX.startF N (.ref a :: ws) [none]) H (fun vs H1 => vs.length ≤ 1 ∧ H1 a = some (exo a C none) ∧ t { nx := fun _ H' => Q .non H', rt := Q } (NdefX.startF N (.ref a :: ws) [none]) H1) I3 hsp
  show wpAny (model P w) (cxI P w K mg base N nm qual params (.Expr (.Call (.Attribute (.Call (.Name "super" p0) [] [] p1) "__init__" p2) [te] [] p3) p4 :: rest) scope cc cda fI A outer s H E).A (callWith p3 (.ref h'.objs.size) [] (backTo p3 (starEach [te] (cxI P w K mg base N nm qual params (.Expr (.Call (.Attribute (.Call (.Name "super" p0) [] [] p1) "__init__" p2) [te] [] p3) p4 :: rest) scope cc cda fI A outer s H E).env)) []) _ _ _
  rw [hst] at ha ⊢
  refine PySem.W.kxs_callWith (i := "ValueError.__init__") (x := a) rfl (Calls.evalArgs_plain (thn ha fun us s1 ⟨vs, H1, J, rv, hlen, ea1, ht⟩ => ?_))
  refine ⟨(J.pin (h'.objs.size, PySem.W.kxs_mw "ValueError.__init__" a) (List.mem_append_right _ (List.mem_append_right _ (mem_pinsAt List.mem_cons_self hu)))).1, ?_⟩
  have hu1 := (J.pin (h'.objs.size, PySem.W.kxs_mw "ValueError.__init__" a) (List.mem_append_right _ (List.mem_append_right _ (mem_pinsAt List.mem_cons_self hu)))).1
  obtain ⟨t2, ho3⟩ := exo_at J.hok ea1
  have hC3 := J.kIn _ _ hC
  have hz : us.length ≤ sizeLine := by
    rw [← rv.length, sizeLine_eq]
    omega
  obtain ⟨h3, g3, d3, tk3, os3⟩ := s1
  show wpAny (model P w) _ (call (.ref h'.objs.size) ([] ++ us) []) _ _ _
  rw [List.nil_append]
  refine wpAny_call (codeAny_of_tree ?_)
  show wpAny _ (Around.in1 _) (callAny (.ref h'.objs.size) ⟨us, []⟩) _ _ _
  simp only [callAny]
  refine wpAny_bind (wpAny_load hu1 ?_)
  simp only [PySem.W.kxs_mw, show (Value.type "method-wrapper" == Value.type "method" || Value.type "method-wrapper" == Value.type "builtin_function_or_method" || Value.type "method-wrapper" == Value.type "method-wrapper") = true by decide, if_true]
  refine PySem.W.KFB.if_so (by decide) ?_
  refine wpAny_bind (PySem.W.check_bound_init F.excBase_ValueError.toExcCallFacts hC3 ho3 rfl ?_)
  refine wpAny_bind (wpAny_pure (wpAny_pure ?_))
  refine ⟨plainId_quiet F.excBase_ValueError.init.plain _, codeAny_builtin F.excBase_ValueError.initEntry ?_⟩
  refine PySem.W.exc_init_tree (cls := .ref C) (t0 := t2) (dv := none) (c2 := .none) (c3 := .none) (b4 := .bool false) ho3 hz fun h4 k4 hx4 _ => ?_
  have J2 := J.write (t' := tk3) (x := a) (e := a) (o := exo a C none) (by rw [ea1]; exact True.intro) (.inl rfl) k4 ⟨_, hx4⟩ (exo_ok hx4)
  have eu : upd H1 a (exo a C none) = H1 := by
    funext b
    by_cases hb : b = a
    · rw [hb, upd_same, ea1]
    · rw [upd_ne hb]
  rw [eu] at J2
  refine wpAt_of_wpAny (wpAny_mono ((hrest cc cda A outer s H E).run [] _ _ H1 _ J2.unpinned ht) (fun fl s' hs => ?_) fun e s' hs => hs)
  have fin : ∀ {σ' : St} {H' : Hp} {v : V} {u : Value}, Inv (cxI P w K mg base N nm qual params (.Expr (.Call (.Attribute (.Call (.Name "super" p0) [] [] p1) "__init__" p2) [te] [] p3) p4 :: rest) scope cc cda fI A outer s H E) [] σ' H' s' → RelV v u → Q v H' → CE outer P w H s Q u s' :=
    fun {σ' H' v u} J rv q => ⟨v, H', J.os, J.bare, J.base, J.hok, rv, q⟩
  cases fl with
  | ret u =>
    obtain ⟨v, σ', H', J, rv, q⟩ := hs
    exact fin J rv q
  | next =>
    obtain ⟨σ', H', J, q⟩ := hs
    exact fin (v := V.non) (u := Value.none) J rfl q
  | brk =>
    obtain ⟨_, _, _, q⟩ := hs
    exact False.elim q
  | cont =>
    obtain ⟨_, _, _, q⟩ := hs
    exact False.elim q
end

/-! ### the fields -/
section
variable {K : PySem.W.Frag} {C a dx : Addr} {D : Ends} {σ : St}
theorem fsV_cons {f : String} {r : List String} {v : V} {us : List V} : fsV (f :: r) (v :: us) = (Str.ofString f, v) :: fsV r us := rfl
theorem fl_old (T : OexC K C) (h0 : σ[0]? = some (some (.ref a))) (hda : dx ≠ a) : ∀ (r : List String) (us : List V) (i : Nat) (gs : List (Str × V)) (H : Hp), r.length = us.length → (∀ f ∈ r, PySem.W.findIn K (.ref C) (Str.ofString f) = some none) →
    (∀ j v, us[j]? = some v → σ[i + j]? = some (some v)) → H a = some (exo a C (some dx)) → H dx = some (exd dx gs) → gs.length + r.length ≤ 900 → D.nx σ (upd H dx (exd dx ((fsV r us).reverse ++ gs))) → tFl K r i D σ H
  | [], us, i, gs, H, hl, _, _, ha, hx, _, q => by
    cases us with
    | nil =>
      have e : upd H dx (exd dx gs) = H := by
        funext b
        by_cases hb : b = dx
        · rw [hb, upd_same, hx]
        · rw [upd_ne hb]
      have q : D.nx σ (upd H dx (exd dx gs)) := q
      rw [e] at q
      exact q
    | cons v us => cases hl
  | f :: r, us, i, gs, H, hl, hn, hs, ha, hx, hz, q => by
    cases us with
    | nil => cases hl
    | cons v us =>
      refine ⟨v, hs 0 v rfl, .ref a, h0, a, C, rfl, T, hn f List.mem_cons_self, .inr ⟨dx, gs, ha, hx, by simp at hz; omega, ?_⟩⟩
      refine fl_old T h0 hda r us (i + 1) ((Str.ofString f, v) :: gs) _ (by simpa using hl) (fun g hg => hn g (List.mem_cons_of_mem _ hg)) (fun j w e => ?_) ?_ upd_same (by simp at hz ⊢; omega) ?_
      · have := hs (j + 1) w (by simpa using e)
        rw [show i + 1 + j = i + (j + 1) by omega]
        exact this
      · rw [upd_ne (Ne.symm hda)]
        exact ha
      · have e : upd (upd H dx (exd dx ((Str.ofString f, v) :: gs))) dx (exd dx ((fsV r us).reverse ++ (Str.ofString f, v) :: gs)) = upd H dx (exd dx ((fsV (f :: r) (v :: us)).reverse ++ gs)) := by
          funext b
          by_cases hb : b = dx
          · rw [hb, upd_same, upd_same, fsV_cons, List.reverse_cons, List.append_assoc]
            rfl
          · rw [upd_ne hb, upd_ne hb, upd_ne hb]
        show D.nx σ _
        rw [e]
        exact q
theorem fl_new (T : OexC K C) (h0 : σ[0]? = some (some (.ref a))) {f : String} {r : List String} {us : List V} {H : Hp} (hl : (f :: r).length = us.length) (hn : ∀ g ∈ f :: r, PySem.W.findIn K (.ref C) (Str.ofString g) = some none)
    (hs : ∀ j v, us[j]? = some v → σ[1 + j]? = some (some v)) (ha : H a = some (exo a C none)) (hz : (f :: r).length ≤ 900) (q : ∀ dx, H dx = none → dx ≠ a → D.nx σ (upd (upd H dx (exd dx (fsV (f :: r) us).reverse)) a (exo a C (some dx)))) : tFl K (f :: r) 1 D σ H := by
  cases us with
  | nil => cases hl
  | cons v us =>
    refine ⟨v, hs 0 v rfl, .ref a, h0, a, C, rfl, T, hn f List.mem_cons_self, .inl ⟨ha, fun dx hd hda => ?_⟩⟩
    refine fl_old T h0 hda r us 2 [(Str.ofString f, v)] _ (by simpa using hl) (fun g hg => hn g (List.mem_cons_of_mem _ hg)) (fun j w e => ?_) upd_same (by rw [upd_ne hda, upd_same]) (by simp at hz ⊢; omega) ?_
    · have := hs (j + 1) w (by simpa using e)
      rw [show 2 + j = 1 + (j + 1) by omega]
      exact this
    · have e : upd (upd (upd H dx (exd dx [(Str.ofString f, v)])) a (exo a C (some dx))) dx (exd dx ((fsV r us).reverse ++ [(Str.ofString f, v)])) = upd (upd H dx (exd dx (fsV (f :: r) (v :: us)).reverse)) a (exo a C (some dx)) := by
        funext b
        by_cases hb : b = dx
        · rw [hb, upd_same, upd_ne hda, upd_same, fsV_cons, List.reverse_cons]
        · rw [upd_ne hb]
          by_cases hba : b = a
          · rw [hba, upd_same, upd_same]
          · rw [upd_ne hba, upd_ne hb, upd_ne hba, upd_ne hb]
      show D.nx σ _
      rw [e]
      exact q dx hd hda
end
theorem rlook {β : Type} : ∀ {ps : List Str} {us : List β} {i : Nat} {x : Str} {u : β}, ps.Nodup → ps[i]? = some x → us[i]? = some u → (ps.zip us).reverse.lookup x = some u
  | [], _, _, _, _, _, h, _ => by simp at h
  | _ :: _, [], _, _, _, _, _, h => by simp at h
  | p :: ps, v :: us, 0, x, u, nd, h1, h2 => by
    simp at h1 h2
    subst h1
    subst h2
    have hn : (ps.zip us).reverse.lookup p = none := by
      cases e : (ps.zip us).reverse.lookup p with
      | none => rfl
      | some w => exact absurd (List.of_mem_zip (List.mem_reverse.mp (PySem.mem_of_lookup e))).1 (List.nodup_cons.mp nd).1
    rw [List.zip_cons_cons, List.reverse_cons, List.lookup_append, hn]
    simp [List.lookup]
  | p :: ps, v :: us, i + 1, x, u, nd, h1, h2 => by
    have e : (ps.zip us).reverse.lookup x = some u := rlook (i := i) (List.nodup_cons.mp nd).2 (by simpa using h1) (by simpa using h2)
    rw [List.zip_cons_cons, List.reverse_cons, List.lookup_append, e] <;> rfl

/-! ### raise C(..) -/
section
variable {X : Cx} {W : WX} {Cn : String} {fs : List String} {ok : List D → Bool} {x : Str} {fI : Addr} {fd : FuncData} {N ps : List Str} {tx : TE} {k j : Nat} {e : Expr} {es : List Expr} {fas : Ax} {p pos pos' : Pos}
/-- what a text's reading asks is had from the arguments' data -/
def TxOk (N : List Str) (n : Nat) (tx : TE) (ok : List D → Bool) : Prop := ∀ (q : Pin) (K : PySem.W.Frag) (m : Nat → Addr) (l : Nat) (G : Hp) (vs : List V) (ds : List D) (a : Addr) (H : Hp) (Q : VK), @RpL q K m l G vs ds → ds.length = n → ok ds = true → (∀ y, Q (.str y) H) → tx (NdefX.startF N (.ref a :: vs) [none]) H Q
theorem si_raise (T : OexC X.K (gaC X.K Cn)) (iC : PySem.W.findIn X.K (.ref (gaC X.K Cn)) "__init__" = some (some (.ref fI))) (tI : PySem.W.typeIn X.K (.ref fI) = some (.type "function"))
    (F1 : FnOk X.prog X.w X.K X.mg X.base (L2.CX X.prog X.w) k fI fd ps (spE X.K (gaC X.K Cn) N ps tx (tFl X.K fs 1))) (hr : Room j X.A) (hb : Binds X.K fd ps []) (hc : X.calm = true) (tk : Takes X W) (hj : k + 1 ≤ j) (hg : Gl X x) (hm : X.mg x = some (.ref (gaC X.K Cn)))
    (hf0 : fs ≠ []) (hz : fs.length ≤ 900) (hnd : (fs.map Str.ofString).Nodup) (hn : ∀ f ∈ fs, PySem.W.findIn X.K (.ref (gaC X.K Cn)) (Str.ofString f) = some none) (hps : ps.length = fs.length + 1) (htx : TxOk N fs.length tx ok)
    (ha : AI X W (e :: es) fas) (hdb : (x == ("__debug__" : Str)) = false := by decide) (he : starEach (e :: es) X.env = (false, eval e X.env) :: starEach es X.env := by rfl) (hpl : (backTo pos (starEach es X.env)).any (·.1) = false := by rfl) :
    SI X W (.Raise (some (.Call (.Name x p) (e :: es) [] pos)) none pos') (sRaise Cn fs ok fas) := by
  refine psI (ps_raise hc tk (pmk_oex (CX := L2.CX X.prog X.w) T iC tI F1 (hr.mono hj) hb .nil (passes_call (E := fun _ _ _ => False) tk fun _ _ _ _ z => z.elim) hg hm ha hdb he hpl)) fun D σ H h => ?_
  obtain ⟨env, G, m, st, er, S, w⟩ := h
  refine ⟨env, G, m, st, er, S, (WS.st er w).imp fun ds st1 G1 m1 H1 t1 S1 w1 vs rvs => ?_⟩
  split at w1
  · rename_i hc2
    have hvl : vs.length = fs.length := rvs.length.trans hc2.1
    refine ⟨by omega, fun a na => ?_⟩
    rw [List.append_nil]
    refine ⟨by rw [hps, List.length_cons, hvl], a, vs, rfl, upd_same, htx pin _ _ _ _ _ _ _ _ _ rvs hc2.1 hc2.2.2 fun y => ⟨Nat.le_refl _, upd_same, ?_⟩⟩
    cases fs with
    | nil => exact absurd rfl hf0
    | cons f r =>
      refine fl_new T rfl hvl.symm hn (fun i v e => ?_) upd_same hz fun dx hd hda => ?_
      · unfold NdefX.startF
        rw [List.getElem?_append_left (by simp; have := (List.getElem?_eq_some_iff.mp e).1; omega), List.getElem?_map, show 1 + i = i + 1 by omega, List.getElem?_cons_succ, e]
        rfl
      · rw [upd_ne hda] at hd
        refine ⟨rfl, dx, _, upd_same, by rw [upd_ne hda, upd_same], hd, ?_⟩
        have e : upd (del (upd (upd (upd H1 a (exo a (gaC X.K Cn) none)) dx (exd dx (fsV (f :: r) vs).reverse)) a (exo a (gaC X.K Cn) (some dx))) a) dx (.xd (fsV (f :: r) vs).reverse) = upd H1 dx (.xd (fsV (f :: r) vs).reverse) := by
          funext b
          by_cases hb : b = dx
          · rw [hb, upd_same, upd_same]
          · rw [upd_ne hb, upd_ne hb]
            by_cases hba : b = a
            · rw [hba, del_same, na]
            · rw [del_ne hba, upd_ne hba, upd_ne hb, upd_ne hba]
        rw [e]
        refine w1 (some dx) vs σ (upd G1 dx (.xd (fsV (f :: r) vs).reverse)) m1 _ (S1.trNew hd) (S1.new hd) ⟨hvl.symm, .inr ⟨dx, _, rfl, upd_same, fun i g v e1 e2 => ?_⟩⟩ ((RpL.gnd (m' := fun _ => 0) ds vs hc2.2.1 rvs).up (same_new (S1.free hd))) (er.tr (t1.trans (S1.trNew hd)))
        exact rlook hnd (by rw [List.getElem?_map, e1]; rfl) e2
  · exact w1.elim
/-- a plain text -/
theorem tx_c {N : List Str} {n : Nat} {z : Str} : TxOk N n (L2.tC (.str z)) txt0 := fun _ _ _ _ _ _ _ _ _ _ _ _ _ h => h z
end

section
variable {N : List Str} {n k : Nat}
theorem start_at {N : List Str} {vs : List V} {a : Addr} {k : Nat} {v : V} (e : vs[k]? = some v) : (NdefX.startF N (.ref a :: vs) [none])[k + 1]? = some (some v) := by
  unfold NdefX.startF
  rw [List.getElem?_append_left (by simp; have := (List.getElem?_eq_some_iff.mp e).1; omega), List.getElem?_map, List.getElem?_cons_succ, e]
  rfl
/-- f"..{what}" -/
theorem tx_f2 {z : Str} (hz : z.length ≤ 1000) : TxOk N n (fun σ H Q => tJs [L2.tC (.str z), tFmt (tVar (k + 1))] Str.empty σ H fun out H1 => Q (.str out) H1) (txtAt k) := by
  intro q K m l G vs ds a H Q r hl hok h
  unfold txtAt at hok
  split at hok
  · rename_i y hy
    have hy2 := of_decide_eq_true hok
    obtain ⟨v, hv, rv⟩ := r.get hy
    cases rv
    have l0 : Str.empty.length = 0 := rfl
    refine ⟨z, rfl, by rw [PySem.Str.length_append, l0, sizeLine_eq]; omega, .str y, start_at hv, .inl ⟨y, rfl, by rw [sizeLine_eq]; omega, y, rfl, by rw [PySem.Str.length_append, PySem.Str.length_append, l0, sizeLine_eq]; omega, h _⟩⟩
  · cases hok
/-- f"..{what}.." -/
theorem tx_f3 {z z2 : Str} (hz : z.length ≤ 1000) (hz2 : z2.length ≤ 1000) : TxOk N n (fun σ H Q => tJs [L2.tC (.str z), tFmt (tVar (k + 1)), L2.tC (.str z2)] Str.empty σ H fun out H1 => Q (.str out) H1) (txtAt k) := by
  intro q K m l G vs ds a H Q r hl hok h
  unfold txtAt at hok
  split at hok
  · rename_i y hy
    have hy2 := of_decide_eq_true hok
    obtain ⟨v, hv, rv⟩ := r.get hy
    cases rv
    have l0 : Str.empty.length = 0 := rfl
    refine ⟨z, rfl, by rw [PySem.Str.length_append, l0, sizeLine_eq]; omega, .str y, start_at hv, .inl ⟨y, rfl, by rw [sizeLine_eq]; omega, y, rfl, by rw [PySem.Str.length_append, PySem.Str.length_append, l0, sizeLine_eq]; omega, z2, rfl, by rw [PySem.Str.length_append, PySem.Str.length_append, PySem.Str.length_append, l0, sizeLine_eq]; omega, h _⟩⟩
  · cases hok
end

/-! ### the checks -/
def oexB (K : PySem.W.Frag) (C : Addr) : Bool := (match K.lookup C with
  | some ⟨.type "type", _, .cls cd, ⟨[_, _, _, _, some (.builtin "ValueError.__new__"), _]⟩⟩ => decide (cd.hasDict = true) && (decide (cd.hasDel = false) && (match cd.mro with
    | .ref D :: bm => decide (D = C) && PySem.HandSPX.refsVE bm
    | _ => false))
  | _ => false) && (decide (PySem.W.findIn K (.ref C) "__setattr__" = some (some (.builtin "object.__setattr__"))) && (decide (PySem.W.subIn K (.ref C) (.type "BaseException") = some true) && (decide (PySem.W.typeIn K (.ref C) = some (.type "type")) && PySem.W.keepIn K (.ref C))))
theorem oexB_ok {K : PySem.W.Frag} {C : Addr} (h : oexB K C = true) : OexC K C := by
  obtain ⟨h1, h⟩ := band h
  obtain ⟨h2, h⟩ := band h
  obtain ⟨h3, h⟩ := band h
  obtain ⟨h4, h5⟩ := band h
  refine ⟨?_, of_decide_eq_true h2, of_decide_eq_true h3, of_decide_eq_true h4, h5⟩
  split at h1
  · rename_i dd cd k0 k1 k2 k3 k5 e
    obtain ⟨g1, hh⟩ := band h1
    obtain ⟨g2, hm⟩ := band hh
    obtain ⟨nm, bs, mro, ns, qn, hd, sn, sb, ab, col, del⟩ := cd
    have g3 : hd = true := of_decide_eq_true g1
    have g4 : del = false := of_decide_eq_true g2
    cases mro with
    | nil => cases hm
    | cons v bm =>
      cases v with
      | ref D =>
        obtain ⟨g5, g6⟩ := band (show (decide (D = C) && PySem.HandSPX.refsVE bm) = true from hm)
        have g5 := of_decide_eq_true g5
        subst g3 g4 g5
        exact ⟨_, _, _, _, _, _, _, _, _, _, _, _, _, _, _, e, g6⟩
      | _ => cases hm
  · cases h1
def exiB (K : PySem.W.Frag) (fl : Str) (C fI : Addr) : Bool := (match K.lookup fI with
    | some ⟨_, _, .func fd, _⟩ => (match fd.code with
      | .ref cda => (match K.lookup cda with
        | some ⟨_, _, .fields vs, _⟩ => (match (vs[2]? : Option Value) with
          | some (.str f _) => decide (f = fl)
          | _ => false)
        | _ => false)
      | _ => false) && (match fd.closure with
      | [(_, cc)] => (match K.lookup cc with
        | some ⟨_, _, .cell (some (.ref D)), _⟩ => decide (D = C)
        | _ => false)
      | _ => false)
    | _ => false) && (oexB K C && (decide (PySem.W.mroIn K C (.ref C) = some true) && (decide (PySem.W.ks_superIn K C C "__init__" = some (some (.builtin "ValueError.__init__"))) && (decide (PySem.W.subIn K (.ref C) (.type "ValueError") = some true) &&
  (decide (PySem.W.nsIn K cStatics "thirdparty.any" = some none) && (decide (PySem.W.findIn K (.ref C) "__init__" = some (some (.ref fI))) && decide (PySem.W.typeIn K (.ref fI) = some (.type "function"))))))))
theorem exi_of {K : PySem.W.Frag} {fl : Str} {C : Addr} {d : XD} (e : fnX K (d.at_ K) = d.val) (c : d.ok K = true) (hclo : d.clo = [("__class__" : Str)]) (hB : exiB K fl C (d.at_ K) = true) : ∃ fd, ExI K fl C (d.at_ K) d.name d.qual d.params d.body d.scope fd := by
  obtain ⟨oc, od, osl, dV, kV, doc, pm, an, cdv, ct, cl, lk, hcl, h1, h2, h3, h4⟩ := XD.fd e c
  obtain ⟨b1, hB⟩ := band hB
  obtain ⟨b2, hB⟩ := band hB
  obtain ⟨b3, hB⟩ := band hB
  obtain ⟨b4, hB⟩ := band hB
  obtain ⟨b5, hB⟩ := band hB
  obtain ⟨b6, hB⟩ := band hB
  obtain ⟨b7, b8⟩ := band hB
  rw [lk] at b1
  obtain ⟨a1, a2⟩ := band b1
  rw [hclo] at hcl
  have hdV : dV = .none := by
    rcases h2 with ⟨_, z⟩ | ⟨z, _⟩
    · exact z
    · exact absurd rfl z
  subst hdV
  cases cdv with
  | ref cda =>
    refine ⟨PySem.W.fnX d.name d.qual d.params d.body d.scope cl .none kV doc pm an (.ref cda) ct, ⟨oc, od, osl, kV, doc, pm, an, cda, ?_⟩, oexB_ok b2, of_decide_eq_true b3, of_decide_eq_true b4, of_decide_eq_true b5, of_decide_eq_true b6, of_decide_eq_true b7, of_decide_eq_true b8⟩
    match cl, hcl, lk, a2 with
    | [(y, cc)], hcl, lk, a2 =>
      have hy : y = "__class__" := by simpa using hcl
      subst hy
      refine ⟨cc, ct, rfl, lk, h1, ?_, ?_⟩
      · dsimp only [PySem.W.fnX] at a1
        split at a1
        · rename_i c0 d0 vs s0 e0
          split at a1
          · rename_i f t e1
            exact ⟨_, _, vs, _, t, e0, by rw [e1, of_decide_eq_true a1]⟩
          · cases a1
        · cases a1
      · dsimp only [PySem.W.fnX] at a2
        split at a2
        · rename_i c0 d0 D s0 e0
          exact ⟨_, _, _, by rw [e0, of_decide_eq_true a2]⟩
        · cases a2
  | _ => cases a1
theorem exi_binds {K : PySem.W.Frag} {fl nm qual : Str} {C fI : Addr} {params : Arguments} {body : List Stmt} {scope : Scope} {fd : FuncData} {ps : List Str} (E : ExI K fl C fI nm qual params body scope fd)
    (h : ∀ (kV doc pm : Value) (an : Option Addr) (cda cc : Addr) (ct : Value) (us : List Value), us.length = ps.length → bindArgs (PySem.W.fnX nm qual params body scope [("__class__", cc)] .none kV doc pm an (.ref cda) ct) ⟨us, []⟩ = pure (ps.zip us)) : Binds K fd ps [] := by
  obtain ⟨oc, od, osl, kV, doc, pm, an, cda, cc, ct, rfl, _⟩ := E.fn
  exact .all (h kV doc pm an cda cc ct)

/-! ### in use -/
structure HasE (P : Program) (w : World) (K : PySem.W.Frag) (mg : Str → Option Value) (base : Heap) (Cn : String) (fs : List String) (ok : List D → Bool) : Prop where
  ex : ∃ (fI : Addr) (fd : FuncData) (N ps : List Str) (tx : TE), OexC K (gaC K Cn) ∧ PySem.W.findIn K (.ref (gaC K Cn)) "__init__" = some (some (.ref fI)) ∧ PySem.W.typeIn K (.ref fI) = some (.type "function") ∧
    FnOk P w K mg base (L2.CX P w) 1 fI fd ps (spE K (gaC K Cn) N ps tx (tFl K fs 1)) ∧ Binds K fd ps [] ∧ ps.length = fs.length + 1 ∧ TxOk N fs.length tx ok
  f0 : fs ≠ []
  hz : fs.length ≤ 900
  nd : (fs.map Str.ofString).Nodup
  hn : ∀ f ∈ fs, PySem.W.findIn K (.ref (gaC K Cn)) (Str.ofString f) = some none
  gl : mg (Str.ofString Cn) = some (.ref (gaC K Cn))
theorem si_rs {X : Cx} {W : WX} {Cn : String} {fs : List String} {ok : List D → Bool} {j : Nat} {e : Expr} {es : List Expr} {fas : Ax} {p pos pos' : Pos} (h : HasE X.prog X.w X.K X.mg X.base Cn fs ok) (hr : Room j X.A) (hc : X.calm = true) (tk : Takes X W) (hj : 2 ≤ j) (ha : AI X W (e :: es) fas) (hg : Gl X (Str.ofString Cn) := by rfl)
    (hdb : (Str.ofString Cn == ("__debug__" : Str)) = false := by decide) (he : starEach (e :: es) X.env = (false, eval e X.env) :: starEach es X.env := by rfl) (hpl : (backTo pos (starEach es X.env)).any (·.1) = false := by rfl) :
    SI X W (.Raise (some (.Call (.Name (Str.ofString Cn) p) (e :: es) [] pos)) none pos') (sRaise Cn fs ok fas) := by
  obtain ⟨fI, fd, N, ps, tx, h1, h2, h3, h4, h5, h6, h7⟩ := h.ex
  exact si_raise h1 h2 h3 h4 hr h5 hc tk hj hg h.gl h.f0 h.hz h.nd h.hn h6 h7 ha hdb he hpl

/-! ### list(..), built further -/
theorem ei_lstC {X : Cx} {W : WX} {e : Expr} {fa : Ex} {p pos : Pos} (hm : X.mg "list" = none) (ha : EI X W e fa) (hg : Gl X "list" := by rfl) (he : starEach [e] X.env = (false, eval e X.env) :: starEach [] X.env := by rfl) : EI X W (.Call (.Name "list" p) [e] [] pos) (eLstC fa) := by
  refine peI (pe_callTy call_list_of hg hm PyProof.Rows.boot_list (ai_cons ha ai_nil he) (by decide) (by decide) he rfl) fun σ H Q h => ?_
  obtain ⟨env, G, m, st, er, S, w⟩ := h
  refine ⟨env, G, m, st, er, S, ?_⟩
  unfold eLstC at w
  have w := w.bnd
  unfold aCons aNil
  cases h1 : fa env st with
  | bad => rw [h1] at w; exact w
  | exc C fs xs st1 => rw [h1] at w; exact w
  | ok x st1 =>
    rw [h1] at w
    intro G1 m1 H1 t1 S1 vs rvs
    have w1 := w G1 m1 H1 t1 S1
    obtain ⟨v, rfl, rv⟩ := rp1 rvs
    have fin : ∀ (us : List V) (xs : List D), RpL X.K m1 st1.length G1 us xs → D.gnds xs = true → Wp X.K G1 m1 st1.length (.ok (.ref st1.length) (st1 ++ [.lst xs])) (fun d st' G' m' H' => ∀ v, Rp X.K m' st'.length G' v d → Q v H') (fun c dd H' => W c dd σ H') → ∀ l, H1 l = none → Q (.ref l) (upd H1 l (.lst us)) := fun us xs r hg w2 l hl => by
      have S2 := S1.push (u := .lst us) (o := .lst xs) hl rfl ⟨S1.free hl, us, upd_same, r.gnd xs us hg⟩
      refine w2 _ _ _ S1.trPush S2 _ ?_
      have q := Rp.ref (K := X.K) (m := fun i => if i = st1.length then l else m1 i) (n := (st1 ++ [SO.lst xs]).length) (G := G1) (i := st1.length) (by simp)
      simp only [if_true] at q
      exact q
    dsimp only at w1
    split at w1
    · rename_i xs hx
      split at w1
      · rename_i hg
        obtain ⟨a, us, rfl, h2, r1⟩ := view_lst S1 rv hx
        exact ⟨a, us, rfl, .inl (SqL.of h2), fin us xs r1 hg w1⟩
      · exact w1.elim
    · rename_i xs hx
      split at w1
      · rename_i hg
        obtain ⟨a, us, rfl, h2, r1⟩ := v_tup rv hx
        exact ⟨a, us, rfl, .inr (same_t S1.ex h2), fin us xs r1 hg w1⟩
      · exact w1.elim
    · exact w1.elim

/-! ### raise C(), no fields -/
section
variable {X : Cx}
theorem cbx_end0 {pins : List (Addr × Obj)} {σ : St} {H1 H2 : Hp} {hp hp2 h2 : Heap} {g1 g2 : Array GenState} {d1 d2 : Drawn} {t1 t2 : Nat} {os1 os2 : OsState} {a C : Addr} (I1 : Inv X pins σ H1 ⟨hp, g1, d1, t1, os1⟩)
    (ha : hp.objs.size ≤ a) (k : ∀ b o, hp.get? b = some o → hp2.get? b = some o) (un : Un (frs X.stack) [] (upd H1 a (exo a C none)) H2 hp2 h2) (hok : HOk X.prog X.w H2 h2) (ho : os2 = os1) (hb : AllBare g2)
    (ea : H2 a = some (exo a C none)) :
    ∃ (t0 : Addr) (G : Heap), Inv X pins σ (del H2 a) ⟨G, g2, d2, t2, os2⟩ ∧ (∀ b o, G.get? b = some o → h2.get? b = some o) ∧ G.get? a = none ∧
      h2.get? a = some ({ cls := .ref C, dict := none, data := .fields #[.ref t0, .none, .none, .none, .bool false, .none] } : Obj) ∧ (del H2 a) a = none := by
  obtain ⟨t0, hoe⟩ := exo_at hok ea
  have hn : H1 a = none := I1.hok.fresh ha
  obtain ⟨G, g1', g2'⟩ := restrict h2 fun b => decide (b ≠ a)
  have gk : ∀ b, b ≠ a → G.get? b = h2.get? b := fun b hb => g1' b (decide_eq_true hb)
  have ge : G.get? a = none := g2' a (by simp)
  have nha : ∀ {b : Addr} {o : Obj}, hp.get? b = some o → b ≠ a := fun {b o} z => Nat.ne_of_lt (Nat.lt_of_lt_of_le (Heap.lt_size z) ha)
  have up : ∀ {b : Addr}, b ≠ a → H1 b = none → upd H1 a (exo a C none) b = none := fun {b} hb n => by rw [upd_ne hb]; exact n
  have U : Un (frs X.stack) [] H1 (del H2 a) hp G := {
    keep := fun b o z n hf hx => by
      rw [gk b (nha z)]
      exact un.keep b o (k b o z) (up (nha z) n) hf hx
    slot := fun b o z n hf hx => by
      rw [gk b (nha z)]
      exact un.slot b o (k b o z) (up (nha z) n) hf hx
    free := fun b o z n hx => by
      rw [del_ne (nha z)]
      exact un.free b o (k b o z) (up (nha z) n) hx
    there := fun b o z hx => by
      rw [gk b (nha z)]
      exact un.there b o (k b o z) hx
    tups := fun b xs z => by
      rw [del_ne (ne_of_none z hn)]
      exact un.tups b xs (by rw [upd_ne (ne_of_none z hn)]; exact z)
    frzs := fun b o v z => by
      rw [del_ne (ne_of_none z hn)]
      exact un.frzs b o v (by rw [upd_ne (ne_of_none z hn)]; exact z)
    tbls := fun b ps z => by
      rw [del_ne (ne_of_none z hn)]
      exact un.tbls b ps (by rw [upd_ne (ne_of_none z hn)]; exact z) }
  have hok3 : HOk X.prog X.w (del H2 a) G := fun b o z => by
    have hba : b ≠ a := fun e => by
      rw [e, del_same] at z
      cases z
    rw [del_ne hba] at z
    have noa : ∀ {c : Addr}, H2 c = some (.own b) → c ≠ a := fun {c} hc => at_ne ea hc exo_own
    exact (hok b o z).stay (fun c v hc y => by
        have hca : c ≠ a := by
          rcases hc with hc | hc
          · rw [hc]
            exact hba
          · exact noa hc
        rw [gk c hca]
        exact y)
      (fun c hc => by rw [del_ne (noa hc)]; exact hc) (fun c xs hc => by rw [del_ne (at_ne ea hc exo_tup)]; exact hc)
  have J : Inv X pins σ (del H2 a) ⟨G, g2, d2, t2, os2⟩ := I1.call' (ch := []) ho U hok3 hb (fun b z => absurd z (by simp))
  refine ⟨t0, G, J, fun b o z => ?_, ge, hoe, del_same⟩
  by_cases hba : b = a
  · rw [hba, ge] at z
    cases z
  · exact (gk b hba).symm.trans z
def tMkN (C : Addr) (sp : Sp) : St → Hp → XK → Prop := fun _ H Q => ∀ a, H a = none → sp [.ref a] (upd H a (exo a C none)) (fun v H2 => v = .non ∧ H2 a = some (exo a C none) ∧ Q (.ref C) none (del H2 a)) (fun _ _ _ => False)
theorem pmk_oexN {CX : CXT} {x : Str} {C fI : Addr} {k : Nat} {fd : FuncData} {ps : List Str} {sp : Sp} {p pos : Pos} (T : OexC X.K C) (iC : PySem.W.findIn X.K (.ref C) "__init__" = some (some (.ref fI))) (tI : PySem.W.typeIn X.K (.ref fI) = some (.type "function"))
    (F1 : FnOk X.prog X.w X.K X.mg X.base CX k fI fd ps sp) (hr : Room (k + 1) X.A) (hb : Binds X.K fd ps []) (hx : Passes CX X (fun _ _ _ => False)) (hg : Gl X x) (hm : X.mg x = some (.ref C)) (hdb : (x == ("__debug__" : Str)) = false := by decide)
    (hall : (backToKw pos (keywordEach [] X.env)).all (·.1.isSome) = true := by rfl) (hpl : ((backTo pos (starEach [] X.env)).any (·.1) || (backToKw pos (keywordEach [] X.env)).any (·.1.isNone)) = false := by rfl) :
    PMk X (.Call (.Name x p) [] [] pos) (tMkN C sp) := by
  intro pins s σ H1 Q I1 q1
  obtain ⟨nm, q, N, bs, bm, sn, sub, ab, col, dd, k0, k1, k2, k3, k5, hC, hbm⟩ := T.cls
  refine wpAny_Call_Name_kw (ld_glob I1 hg hm ?_ hdb)
  refine PySem.W.callWith_KW0 (h₀ := X.base) I1.ok.mod.kin T.kC hall (thn ((pk_nil (X := X)).run pos pins s σ H1 (fun vs H => vs = [] ∧ H = H1) I1 ⟨rfl, rfl⟩) fun ws s1 ⟨vs, H, I2, r1, ev, eH⟩ => ⟨I2.kIn, ?_⟩) hpl
  subst ev eH
  cases r1
  show wpAny _ _ (call (.ref C) []) _ _ _
  obtain ⟨hp, g, dr, tk, os⟩ := s1
  have hsz : hp.objs.size ≤ hp.objs.size + 1 := Nat.le_succ _
  have hn : H (hp.objs.size + 1) = none := I2.hok.fresh hsz
  have hq := q1 (hp.objs.size + 1) hn
  have kk : ∀ b o, hp.get? b = some o → ((hp.push (PySem.W.kdv_tup [])).push (PySem.HandSPX.excO C hp.objs.size)).get? b = some o := fun b o e => Heap.get?_push_of_some _ (Heap.get?_push_of_some _ e)
  have hget : ((hp.push (PySem.W.kdv_tup [])).push (PySem.HandSPX.excO C hp.objs.size)).get? (hp.objs.size + 1) = some (PySem.HandSPX.excO C hp.objs.size) := by heap_get
  have I3 : Inv X pins σ (upd H (hp.objs.size + 1) (exo (hp.objs.size + 1) C none)) ⟨(hp.push (PySem.W.kdv_tup [])).push (PySem.HandSPX.excO C hp.objs.size), g, dr, tk, os⟩ :=
    I2.laid (t' := tk) (a := hp.objs.size + 1) (o := exo (hp.objs.size + 1) C none) (h' := (hp.push (PySem.W.kdv_tup [])).push (PySem.HandSPX.excO C hp.objs.size)) kk hsz (exo_ok hget)
  have r2 : Vals [V.ref (hp.objs.size + 1)] [Value.ref (hp.objs.size + 1)] := .cons rfl .nil
  have hl : ([Value.ref (hp.objs.size + 1)] ++ []).length = ps.length := by
    have e := F1.len _ _ _ _ hq
    exact e
  have hb2 := hb _ [Value.ref (hp.objs.size + 1)] I3.kIn hl
  rw [List.append_nil] at hb2
  refine wpAny_call (PySem.HandSPX.call_own F.excBase_ValueError (fun Y => PySem.HandSPX.refsVE_contains Y bm hbm) (I2.kIn _ _ hC) (PySem.W.looks_findIn I2.kIn iC) (fun self => PySem.W.bind_fn I2.kIn self tI) (Nat.zero_le _)
    (codeAny_mono (F1.run _ X.stack _ _ ⟨[Value.ref (hp.objs.size + 1)], []⟩ [Value.ref (hp.objs.size + 1)] _ _ (fun _ _ _ => False) (hr.make C [] []) (I3.env0.make C [] []) hb2 r2 hq) fun r s' hq' => ?_))
  cases r with
  | error er => exact hx pins σ _ _ er s' I3 hq'
  | ok fl =>
    cases fl with
    | ret u =>
      obtain ⟨v, H2, os2, bare2, un2, hok2, rv, ev, ea, q2⟩ := hq'
      subst ev
      obtain ⟨h2, g2, d2, t2, os'⟩ := s'
      obtain ⟨t0, G, J, kG, ge, hoe, na⟩ := cbx_end0 (d2 := d2) (t2 := t2) I2 hsz kk un2 hok2 os2 bare2 ea
      exact ⟨rv, _, _, _, ⟨G, g2, d2, t2, os'⟩, _, .ref C, none, rfl, J, kG, ge, hoe, ⟨rfl, rfl⟩, rfl, rfl, na, rfl, bare2, raises_own T.exC T.tyC, q2⟩
    | next => exact False.elim hq'
    | brk => exact False.elim hq'
    | cont => exact False.elim hq'
end

structure HasE0 (P : Program) (w : World) (K : PySem.W.Frag) (mg : Str → Option Value) (base : Heap) (Cn : String) : Prop where
  ex : ∃ (fI : Addr) (fd : FuncData) (N ps : List Str) (tx : TE), OexC K (gaC K Cn) ∧ PySem.W.findIn K (.ref (gaC K Cn)) "__init__" = some (some (.ref fI)) ∧ PySem.W.typeIn K (.ref fI) = some (.type "function") ∧
    FnOk P w K mg base (L2.CX P w) 1 fI fd ps (spE K (gaC K Cn) N ps tx (tFl K [] 1)) ∧ Binds K fd ps [] ∧ ps.length = 1 ∧ TxOk N 0 tx txt0
  gl : mg (Str.ofString Cn) = some (.ref (gaC K Cn))
theorem si_rs0 {X : Cx} {W : WX} {Cn : String} {j : Nat} {p pos pos' : Pos} (h : HasE0 X.prog X.w X.K X.mg X.base Cn) (hr : Room j X.A) (hc : X.calm = true) (tk : Takes X W) (hj : 2 ≤ j) (hg : Gl X (Str.ofString Cn) := by rfl)
    (hdb : (Str.ofString Cn == ("__debug__" : Str)) = false := by decide) (hall : (backToKw pos (keywordEach [] X.env)).all (·.1.isSome) = true := by rfl) (hpl : ((backTo pos (starEach [] X.env)).any (·.1) || (backToKw pos (keywordEach [] X.env)).any (·.1.isNone)) = false := by rfl) :
    SI X W (.Raise (some (.Call (.Name (Str.ofString Cn) p) [] [] pos)) none pos') (sRaise Cn [] txt0 aNil) := by
  obtain ⟨fI, fd, N, ps, tx, T, iC, tI, F1, hb, hps, htx⟩ := h.ex
  refine psI (ps_raise hc tk (pmk_oexN (CX := L2.CX X.prog X.w) T iC tI F1 (hr.mono hj) hb (passes_call (E := fun _ _ _ => False) tk fun _ _ _ _ z => z.elim) hg h.gl hdb hall hpl)) fun D σ H h => ?_
  obtain ⟨env, G, m, st, er, S, w⟩ := h
  have w : WS X.K G m st.length (.exc Cn [] [] env st) (flP X.K D) W := w
  intro a na
  refine ⟨by rw [hps]; rfl, a, [], rfl, upd_same, htx pin X.K m st.length G [] [] a _ _ .nil rfl rfl fun y => ⟨Nat.le_refl _, upd_same, ?_⟩⟩
  refine ⟨rfl, upd_same, ?_⟩
  have e : del (upd H a (exo a (gaC X.K Cn) none)) a = H := by
    funext b
    by_cases hb : b = a
    · rw [hb, del_same, na]
    · rw [del_ne hb, upd_ne hb]
  rw [e]
  exact w none [] σ G m H Tr.refl S ⟨rfl, .inl ⟨rfl, rfl⟩⟩ rpl_nil er
end Cb

set_option Elab.async false
set_option linter.all false
set_option maxRecDepth 100000
set_option maxHeartbeats 4000000
/-! CbMore: min of three, list(range(..)). -/
namespace Cb
open PySem PySem.Spec PyProof.Rows L2
variable {pin : Pin}
theorem map3 {xs : List D} {g : D → D} {y z u : D} (h : xs.map g = [y, z, u]) : ∃ x x' x'', xs = [x, x', x''] ∧ g x = y ∧ g x' = z ∧ g x'' = u := by
  match xs, h with
  | [x, x', x''], h => exact ⟨x, x', x'', rfl, by simpa using h⟩
  | [], h => cases h
  | [_], h => simp at h
  | [_, _], h => simp at h
  | _ :: _ :: _ :: _ :: _, h => simp at h
theorem rp3 {K : PySem.W.Frag} {m : Nat → Addr} {n : Nat} {G : Hp} {vs : List V} {x y z : D} (r : RpL K m n G vs [x, y, z]) : ∃ a b c, vs = [a, b, c] ∧ Rp K m n G a x ∧ Rp K m n G b y ∧ Rp K m n G c z := by
  cases r with
  | cons h1 h2 =>
    obtain ⟨v, u, rfl, h3, h4⟩ := rp2 h2
    exact ⟨_, v, u, rfl, h1, h3, h4⟩
theorem cs_min3 {K : PySem.W.Frag} : ClSem K cMin3 (rNuC3 nuMin3) := by
  intro G m st H vs xs z S rvs e Q q
  unfold cMin3 at e
  split at e
  · rename_i i j k h
    obtain ⟨x, y, w, rfl, hx, hy, hw⟩ := map3 h
    obtain ⟨a, b, c, rfl, ra, rb, rc⟩ := rp3 rvs
    cases e
    rw [v_int ra hx, v_int rb hy, v_int rc hw]
    refine ⟨.int i, .int j, .int k, _, rfl, ?_, q _ _ _ Tr.refl S (.int _)⟩
    have h1 : ∀ a b : Int, nuMin2 (.int a) (.int b) = some (.int (if b < a then b else a)) := fun a b => by
      show (some (decide (b < a))).map _ = _
      by_cases hb : b < a
      · simp [hb]
      · simp [hb]
    unfold nuMin3
    rw [h1, Option.bind_some, h1]
  · cases e
section
variable {X : Cx} {W : WX} {a b c : Expr} {fa fb : Ex} {fas : Ax} {p p' pos pos' : Pos}
theorem ei_min3 (hc : X.calm = true) (hm : X.mg "min" = none) (ha : AI X W [a, b, c] fas) (hg : Gl X "min" := by rfl) (he : starEach [a, b, c] X.env = (false, eval a X.env) :: starEach [b, c] X.env := by rfl) (hpl : (backTo pos (starEach [b, c] X.env)).any (·.1) = false := by rfl) :
    EI X W (.Call (.Name "min" p) [a, b, c] [] pos) (eC1 cMin3 fas) := ei_callB (call_min3Nu hc) cs_min3 hg hm PyProof.Rows.boot_min ha (by decide) (by decide) he hpl
theorem rel_rg {K : PySem.W.Frag} {m : Nat → Addr} {n : Nat} {G : Hp} (i j : Int) : RpL K m n G (rgV i j) (rgD i j) := by
  have h := rel_ints (pin := pin) (K := K) (m := m) (n := n) (G := G) ((List.range (j - i).toNat).map fun t : Nat => i + (t : Int))
  rw [List.map_map, List.map_map] at h
  exact h
theorem ei_lrg (hc : X.calm = true) (hl : X.mg "list" = none) (hr : X.mg "range" = none) (ha : EI X W a fa) (hb : EI X W b fb) (hgl : Gl X "list" := by rfl) (hgr : Gl X "range" := by rfl)
    (n1 : starEach [.Call (.Name "range" p') [a, b] [] pos'] X.env = (false, eval (.Call (.Name "range" p') [a, b] [] pos') X.env) :: starEach [] X.env := by rfl)
    (na : starEach [a, b] X.env = (false, eval a X.env) :: starEach [b] X.env := by rfl) (nb : starEach [b] X.env = (false, eval b X.env) :: starEach [] X.env := by rfl) (hpl : (backTo pos' (starEach [b] X.env)).any (·.1) = false := by rfl) :
    EI X W (.Call (.Name "list" p) [.Call (.Name "range" p') [a, b] [] pos'] [] pos) (eLrg fa fb) := by
  refine peI (pe_listRg hc hgl hl (prg_2 hgr hr ha hb na nb hpl) n1) fun σ H Q h => ?_
  obtain ⟨env, G, m, st, er, S, w⟩ := h
  refine ⟨env, G, m, st, er, S, w.bnd.imp fun x st1 G1 m1 H1 t1 S1 w1 v rv => ?_⟩
  refine ⟨env, G1, m1, st1, er.tr t1, S1, w1.bnd.imp fun y st2 G2 m2 H2 t2 S2 w2 u ru => ?_⟩
  split at w2
  · rename_i i j
    split at w2
    · rename_i hb
      cases rv
      cases ru
      refine ⟨i, j, rfl, rfl, ⟨by omega, by omega, by omega, by omega, by omega⟩, fun q hq => ?_⟩
      exact w2 _ _ _ (S2.trNew hq) (S2.new hq) _ (.lst upd_same ((rel_rg i j).tr (S2.trNew hq)))
    · exact w2.elim
  · exact w2.elim
end
end Cb

set_option Elab.async false
set_option linter.all false
set_option maxRecDepth 100000
/-! K08_F: the functional reading. -/
namespace K08
open Cb
open PySem (Str)
def pg : Pg := ⟨["Kind", "Rest", "Day", "Sheet", "Board"], ["NoThing", "NoKeep"], [("Kind", "name"), ("Kind", "length"), ("Kind", "width"), ("Kind", "price"), ("Kind", "turns"), ("Rest", "name"), ("Rest", "length"), ("Rest", "width"), ("Rest", "cost"), ("Day", "orders"), ("Day", "supplies"), ("Sheet", "kinds"), ("Sheet", "boards"), ("Sheet", "days"), ("Sheet", "rests"), ("Sheet", "kerf"), ("Sheet", "stages"), ("Sheet", "cut_cost"), ("Board", "name"), ("Board", "length"), ("Board", "width"), ("Board", "cost"), ("Board", "trim"), ("Board", "faults"), ("NoThing", "what"), ("NoThing", "index")], [(("Sheet", "MOST_LOTS"), 256), (("Sheet", "MOST_BOARDS"), 12)], [(.inl "NoneType", .inl "bool", false), (.inl "NoneType", .inl "int", false), (.inl "NoneType", .inl "str", false), (.inl "NoneType", .inl "tuple", false), (.inl "NoneType", .inl "list", false), (.inl "bool", .inl "bool", true), (.inl "bool", .inl "int", true), (.inl "bool", .inl "str", false), (.inl "bool", .inl "tuple", false), (.inl "bool", .inl "list", false), (.inl "int", .inl "bool", false), (.inl "int", .inl "int", true), (.inl "int", .inl "str", false), (.inl "int", .inl "tuple", false), (.inl "int", .inl "list", false), (.inl "str", .inl "bool", false), (.inl "str", .inl "int", false), (.inl "str", .inl "str", true), (.inl "str", .inl "tuple", false), (.inl "str", .inl "list", false), (.inl "tuple", .inl "bool", false), (.inl "tuple", .inl "int", false), (.inl "tuple", .inl "str", false), (.inl "tuple", .inl "tuple", true), (.inl "tuple", .inl "list", false), (.inl "list", .inl "bool", false), (.inl "list", .inl "int", false), (.inl "list", .inl "str", false), (.inl "list", .inl "tuple", false), (.inl "list", .inl "list", true), (.inr "NoThing", .inr "NoCut", false), (.inr "NoThing", .inr "NoName", false), (.inr "NoThing", .inr "OutOfRange", false), (.inr "NoThing", .inr "NoKeep", false), (.inr "NoThing", .inr "NoThing", true), (.inr "NoThing", .inl "ValueError", true), (.inr "NoKeep", .inr "NoCut", false), (.inr "NoKeep", .inr "NoName", false), (.inr "NoKeep", .inr "OutOfRange", false), (.inr "NoKeep", .inr "NoKeep", true), (.inr "NoKeep", .inr "NoThing", false), (.inr "NoKeep", .inl "ValueError", true)]⟩
def sub_CutError : List (String × Bool) := [("NoThing", true), ("NoKeep", true)]
abbrev ps__law_pool : List Str := ["script"]
abbrev N__law_pool : List Str := ["script", "cells", "cell", "number", "k"]
def C__law_pool_0 : Ex := eC1 cAbs (aCons (eC1 cInt (aCons (eVar 2) (aNil))) (aNil))
def L__law_pool_0 : Sx := sIf (tB (eB oGe (eVar 2) (eB oPow (eC (.int 10)) (eC (.int 18))))) (sRet (eLstL (aCons (eVar 2) (aNil)))) (sNil)
def L__law_pool_1 : Sx := sAsg (eB oAdd (eB oAdd (eB oMul (eVar 3) (eC (.int 1000003))) (eVar 2)) (eC (.int 7))) (gName 3)
def L__law_pool_2 : Sx := sAsg (eB oAdd (eB oMul (eVar 3) (eB oAdd (eB oMod (eC1 cInt (aCons (eVar 3) (aNil))) (eC (.int 999983))) (eC (.int 48271)))) (eVar 4)) (gName 3)
def B__law_pool : Sx := sSeq (sAsg (eLc (iAny (eSl (eVar 0) (pNone) (pSome (eC (.int 63))))) (gName 2) [2] (tYes) ((C__law_pool_0))) (gName 1)) (sSeq (sFor (iAny (eVar 1)) (gName 2) ((L__law_pool_0))) (sSeq (sAsg (eB oAdd (eC (.int 5)) (eC1 cLen (aCons (eVar 1) (aNil)))) (gName 3)) (sSeq (sFor (iAny (eVar 1)) (gName 2) ((L__law_pool_1))) (sSeq (sFor (iRng1 (aCons (eC (.int 19)) (aNil))) (gName 4) ((L__law_pool_2))) (sRet (eLstL (aCons (eVar 3) (aNil))))))))
def F__law_pool : Fn := fnS finL 1 5 B__law_pool
abbrev ps__law_draw : List Str := ["p", "many"]
abbrev N__law_draw : List Str := ["p", "many", "digit"]
def B__law_draw : Sx := sSeq (sAsg (eB oMod (eC1 cInt (aCons (eB oIx (eVar 0) (eC (.int 0))) (aNil))) (eVar 1)) (gName 2)) (sSeq (sSet 0 (eC (.int 0)) (eB oDiv (eC1 cInt (aCons (eB oIx (eVar 0) (eC (.int 0))) (aNil))) (eVar 1))) (sRet (eVar 2)))
def F__law_draw : Fn := fnS finR 2 3 B__law_draw
abbrev ps__law_sides : List Str := ["p"]
abbrev N__law_sides : List Str := ["p", "length"]
def B__law_sides : Sx := sSeq (sAsg (eB oIx (eLst (aCons (eB oAdd (eC (.int 1)) (eCall (F__law_draw) (aCons (eVar 0) (aCons (eC (.int 6)) (aNil))))) (aCons (eC (.int 60)) (aCons (eC (.int 12)) (aCons (eC (.int 2)) (aNil)))))) (eCall (F__law_draw) (aCons (eVar 0) (aCons (eC (.int 4)) (aNil))))) (gName 1)) (sRet (eLst (aCons (eVar 1) (aCons (eB oAdd (eC (.int 1)) (eCall (F__law_draw) (aCons (eVar 0) (aCons (eC1 cMin3 (aCons (eC (.int 60)) (aCons (eB oDiv (eC (.int 120)) (eVar 1)) (aCons (eC (.int 10)) (aNil))))) (aNil))))) (aNil)))))
def F__law_sides : Fn := fnS finR 1 2 B__law_sides
abbrev ps__law_drawn : List Str := ["p"]
abbrev N__law_drawn : List Str := ["p", "many", "stages", "kinds", "k", "rests"]
def L__law_drawn_0 : Sx := sApp 3 (eB oAdd (eB oAdd (eLst (aCons (eB oIx (eC (.str "abcdef")) (eVar 4)) (aNil))) (eCall (F__law_sides) (aCons (eVar 0) (aNil)))) (eLst (aCons (eB oEq (eCall (F__law_draw) (aCons (eVar 0) (aCons (eC (.int 2)) (aNil)))) (eC (.int 1))) (aNil))))
def C__law_drawn_0 : Ex := eB oAdd (eLst (aCons (eB oIx (eC (.str "rst")) (eVar 4)) (aNil))) (eCall (F__law_sides) (aCons (eVar 0) (aNil)))
def B__law_drawn : Sx := sSeq (sAsg (eLst (aCons (eB oAdd (eC (.int 1)) (eCall (F__law_draw) (aCons (eVar 0) (aCons (eC (.int 3)) (aNil))))) (aCons (eCall (F__law_draw) (aCons (eVar 0) (aCons (eC (.int 4)) (aNil)))) (aCons (eB oAdd (eC (.int 1)) (eCall (F__law_draw) (aCons (eVar 0) (aCons (eC (.int 3)) (aNil))))) (aNil))))) (gName 1)) (sSeq (sIf (tB (eB oEq (eCall (F__law_draw) (aCons (eVar 0) (aCons (eC (.int 8)) (aNil)))) (eC (.int 1)))) (sAsg (eLst (aCons (eC (.int 6)) (aCons (eC (.int 3)) (aCons (eC (.int 3)) (aNil))))) (gName 1)) (sNil)) (sSeq (sAsg (eB oIx (eLst (aCons (eC .non) (aCons (eC .non) (aCons (eC (.int 1)) (aCons (eC (.int 3)) (aNil)))))) (eCall (F__law_draw) (aCons (eVar 0) (aCons (eC (.int 4)) (aNil))))) (gName 2)) (sSeq (sAsg (eLstL (aNil)) (gName 3)) (sSeq (sFor (iRng1 (aCons (eB oIx (eVar 1) (eC (.int 0))) (aNil))) (gName 4) ((L__law_drawn_0))) (sSeq (sFrz 3) (sSeq (sAsg (eLc (iRng1 (aCons (eB oIx (eVar 1) (eC (.int 1))) (aNil))) (gName 4) [4] (tYes) ((C__law_drawn_0))) (gName 5)) (sRet (eLst (aCons (eVar 3) (aCons (eVar 5) (aCons (eB oIx (eVar 1) (eC (.int 2))) (aCons (eVar 2) (aNil)))))))))))))
def F__law_drawn : Fn := fnS finR 1 6 B__law_drawn
abbrev ps_is_name : List Str := ["text"]
abbrev N_is_name : List Str := ["text", "character"]
def L_is_name_0 : Sx := sIf (tB (eB oNotIn (eVar 1) (eC (.str "abcdefghijklmnopqrstuvwxyz0123456789")))) (sRet (eC (.bl false))) (sNil)
def B_is_name : Sx := sSeq (sIf (tNot (tB (eCh oLe oLe (eC (.int 1)) (eC1 cLen (aCons (eVar 0) (aNil))) (eC (.int 8))))) (sRet (eC (.bl false))) (sNil)) (sSeq (sIf (tB (eB oNotIn (eB oIx (eVar 0) (eC (.int 0))) (eC (.str "abcdefghijklmnopqrstuvwxyz")))) (sRet (eC (.bl false))) (sNil)) (sSeq (sFor (iAny (eVar 0)) (gName 1) ((L_is_name_0))) (sRet (eC (.bl true)))))
def F_is_name : Fn := fnS finR 1 2 B_is_name
abbrev ps_check_name : List Str := ["name"]
abbrev N_check_name : List Str := ["name"]
def B_check_name : Sx := sIf (tNot (tB (eCall (F_is_name) (aCons (eVar 0) (aNil))))) (sBad) (sNil)
def F_check_name : Fn := fnS finR 1 1 B_check_name
abbrev ps_in_range : List Str := ["what", "number", "low", "high"]
abbrev N_in_range : List Str := ["what", "number", "low", "high"]
def B_in_range : Sx := sIf (tNot (tB (eCh oLe oLe (eVar 2) (eVar 1) (eVar 3)))) (sBad) (sNil)
def F_in_range : Fn := fnS finR 4 4 B_in_range
abbrev ps_check_sides : List Str := ["length", "width"]
abbrev N_check_sides : List Str := ["length", "width"]
def B_check_sides : Sx := sSeq (sDrop (eCall (F_in_range) (aCons (eC (.str "length")) (aCons (eVar 0) (aCons (eC (.int 1)) (aCons (eC (.int 60)) (aNil))))))) (sDrop (eCall (F_in_range) (aCons (eC (.str "width")) (aCons (eVar 1) (aCons (eC (.int 1)) (aCons (eC (.int 60)) (aNil)))))))
def F_check_sides : Fn := fnS finR 2 2 B_check_sides
abbrev ps_init_Kind : List Str := ["self", "name", "length", "width", "price", "turns"]
abbrev N_init_Kind : List Str := ["self", "name", "length", "width", "price", "turns"]
def B_init_Kind : Sx := sSeq (sDrop (eCall (F_check_name) (aCons (eVar 1) (aNil)))) (sSeq (sDrop (eCall (F_check_sides) (aCons (eVar 2) (aCons (eVar 3) (aNil))))) (sSeq (sDrop (eCall (F_in_range) (aCons (eC (.str "price")) (aCons (eVar 4) (aCons (eC (.int 0)) (aCons (eC (.int 1000000000)) (aNil))))))) (sSeq (sFld pg 0 "name" (eVar 1)) (sSeq (sFld pg 0 "length" (eVar 2)) (sSeq (sFld pg 0 "width" (eVar 3)) (sSeq (sFld pg 0 "price" (eVar 4)) (sFld pg 0 "turns" (eVar 5))))))))
def F_init_Kind : Fn := fnS finR 6 6 B_init_Kind
abbrev ps_init_Rest : List Str := ["self", "name", "length", "width", "cost"]
abbrev N_init_Rest : List Str := ["self", "name", "length", "width", "cost"]
def B_init_Rest : Sx := sSeq (sDrop (eCall (F_check_name) (aCons (eVar 1) (aNil)))) (sSeq (sDrop (eCall (F_check_sides) (aCons (eVar 2) (aCons (eVar 3) (aNil))))) (sSeq (sDrop (eCall (F_in_range) (aCons (eC (.str "cost")) (aCons (eVar 4) (aCons (eC (.int 0)) (aCons (eC (.int 1000000000)) (aNil))))))) (sSeq (sDrop (eCall (F_in_range) (aCons (eC (.str "area")) (aCons (eB oMul (eVar 2) (eVar 3)) (aCons (eC (.int 1)) (aCons (eC (.int 120)) (aNil))))))) (sSeq (sFld pg 0 "name" (eVar 1)) (sSeq (sFld pg 0 "length" (eVar 2)) (sSeq (sFld pg 0 "width" (eVar 3)) (sFld pg 0 "cost" (eVar 4))))))))
def F_init_Rest : Fn := fnS finR 5 5 B_init_Rest
abbrev ps_init_Day : List Str := ["self", "orders", "supplies"]
abbrev N_init_Day : List Str := ["self", "orders", "supplies", "low", "high", "supply"]
def L_init_Day_0 : Sx := sSeq (sDrop (eCall (F_in_range) (aCons (eC (.str "high")) (aCons (eVar 4) (aCons (eC (.int 0)) (aCons (eC (.int 6)) (aNil))))))) (sDrop (eCall (F_in_range) (aCons (eC (.str "low")) (aCons (eVar 3) (aCons (eC (.int 0)) (aCons (eVar 4) (aNil)))))))
def L_init_Day_1 : Sx := sDrop (eCall (F_in_range) (aCons (eC (.str "supply")) (aCons (eVar 5) (aCons (eC (.int 0)) (aCons (eC (.int 6)) (aNil))))))
def C_init_Day_0 : Ex := eTup (aCons (eVar 3) (aCons (eVar 4) (aNil)))
def B_init_Day : Sx := sSeq (sFor (iAny (eVar 1)) (gTup (gCons (gName 3) (gCons (gName 4) (gNil)))) ((L_init_Day_0))) (sSeq (sFor (iAny (eVar 2)) (gName 5) ((L_init_Day_1))) (sSeq (sFld pg 0 "orders" (eC1 cTuple (aCons (eLc (iAny (eVar 1)) (gTup (gCons (gName 3) (gCons (gName 4) (gNil)))) [3, 4] (tYes) ((C_init_Day_0))) (aNil)))) (sFld pg 0 "supplies" (eC1 cTuple (aCons (eVar 2) (aNil))))))
def F_init_Day : Fn := fnS finR 3 6 B_init_Day
abbrev ps_check_many : List Str := ["what", "things", "least", "most"]
abbrev N_check_many : List Str := ["what", "things", "least", "most"]
def B_check_many : Sx := sIf (tNot (tB (eCh oLe oLe (eVar 2) (eC1 cLen (aCons (eVar 1) (aNil))) (eVar 3)))) (sBad) (sNil)
def F_check_many : Fn := fnS finR 4 4 B_check_many
abbrev ps_check_names : List Str := ["things"]
abbrev N_check_names : List Str := ["things", "names", "at", "name", "one"]
def C_check_names_0 : Ex := eFld pg (eVar 4) "name"
def L_check_names_0 : Sx := sIf (tB (eB oIn (eVar 3) (eSl (eVar 1) (pNone) (pSome (eVar 2))))) (sBad) (sNil)
def B_check_names : Sx := sSeq (sAsg (eLc (iAny (eVar 0)) (gName 4) [4] (tYes) ((C_check_names_0))) (gName 1)) (sFor (iEnum (eVar 1)) (gTup (gCons (gName 2) (gCons (gName 3) (gNil)))) ((L_check_names_0)))
def F_check_names : Fn := fnS finR 1 5 B_check_names
abbrev ps_check_days : List Str := ["days", "kinds", "boards"]
abbrev N_check_days : List Str := ["days", "kinds", "boards", "day"]
def L_check_days_0 : Sx := sSeq (sIf (tB (eB oNe (eC1 cLen (aCons (eFld pg (eVar 3) "orders") (aNil))) (eC1 cLen (aCons (eVar 1) (aNil))))) (sBad) (sNil)) (sIf (tB (eB oNe (eC1 cLen (aCons (eFld pg (eVar 3) "supplies") (aNil))) (eC1 cLen (aCons (eVar 2) (aNil))))) (sBad) (sNil))
def B_check_days : Sx := sFor (iAny (eVar 0)) (gName 3) ((L_check_days_0))
def F_check_days : Fn := fnS finR 3 4 B_check_days
abbrev ps_count_lots : List Str := ["days"]
abbrev N_count_lots : List Str := ["days", "many", "day", "order"]
def L_count_lots_0 : Sx := sAsg (eB oMul (eVar 1) (eB oAdd (eB oIx (eVar 3) (eC (.int 1))) (eC (.int 1)))) (gName 1)
def L_count_lots_1 : Sx := sFor (iAny (eFld pg (eVar 2) "orders")) (gName 3) ((L_count_lots_0))
def B_count_lots : Sx := sSeq (sAsg (eC (.int 1)) (gName 1)) (sSeq (sFor (iAny (eVar 0)) (gName 2) ((L_count_lots_1))) (sRet (eVar 1)))
def F_count_lots : Fn := fnS finR 1 4 B_count_lots
abbrev ps_init_Sheet : List Str := ["self", "kinds", "boards", "days", "rests", "kerf", "stages", "cut_cost"]
abbrev N_init_Sheet : List Str := ["self", "kinds", "boards", "days", "rests", "kerf", "stages", "cut_cost", "day"]
def C_init_Sheet_0 : Ex := eC1 cSum (aCons (eFld pg (eVar 8) "supplies") (aNil))
def B_init_Sheet : Sx := sSeq (sDrop (eCall (F_check_many) (aCons (eC (.str "kinds")) (aCons (eVar 1) (aCons (eC (.int 1)) (aCons (eC (.int 6)) (aNil))))))) (sSeq (sDrop (eCall (F_check_many) (aCons (eC (.str "boards")) (aCons (eVar 2) (aCons (eC (.int 1)) (aCons (eC (.int 4)) (aNil))))))) (sSeq (sDrop (eCall (F_check_many) (aCons (eC (.str "days")) (aCons (eVar 3) (aCons (eC (.int 1)) (aCons (eC (.int 3)) (aNil))))))) (sSeq (sDrop (eCall (F_check_many) (aCons (eC (.str "rests")) (aCons (eVar 4) (aCons (eC (.int 0)) (aCons (eC (.int 3)) (aNil))))))) (sSeq (sDrop (eCall (F_check_names) (aCons (eLst (aStar (eVar 1) (aStar (eVar 2) (aStar (eVar 4) (aNil))))) (aNil)))) (sSeq (sDrop (eCall (F_check_days) (aCons (eVar 3) (aCons (eVar 1) (aCons (eVar 2) (aNil)))))) (sSeq (sDrop (eCall (F_in_range) (aCons (eC (.str "kerf")) (aCons (eVar 5) (aCons (eC (.int 0)) (aCons (eC (.int 20)) (aNil))))))) (sSeq (sIf (tB (eB oNotN (eVar 6) (eC .non))) (sDrop (eCall (F_in_range) (aCons (eC (.str "stages")) (aCons (eVar 6) (aCons (eC (.int 1)) (aCons (eC (.int 8)) (aNil))))))) (sNil)) (sSeq (sDrop (eCall (F_in_range) (aCons (eC (.str "cut_cost")) (aCons (eVar 7) (aCons (eC (.int 0)) (aCons (eC (.int 1000000000)) (aNil))))))) (sSeq (sIf (tB (eB oGt (eCall (F_count_lots) (aCons (eVar 3) (aNil))) (eFld pg (eVar 0) "MOST_LOTS"))) (sBad) (sNil)) (sSeq (sIf (tB (eB oGt (eC1 cSum (aCons (eLc (iAny (eVar 3)) (gName 8) [8] (tYes) ((C_init_Sheet_0))) (aNil))) (eFld pg (eVar 0) "MOST_BOARDS"))) (sBad) (sNil)) (sSeq (sFld pg 0 "kinds" (eC1 cTuple (aCons (eVar 1) (aNil)))) (sSeq (sFld pg 0 "boards" (eC1 cTuple (aCons (eVar 2) (aNil)))) (sSeq (sFld pg 0 "days" (eC1 cTuple (aCons (eVar 3) (aNil)))) (sSeq (sFld pg 0 "rests" (eC1 cTuple (aCons (eVar 4) (aNil)))) (sSeq (sFld pg 0 "kerf" (eVar 5)) (sSeq (sFld pg 0 "stages" (eVar 6)) (sFld pg 0 "cut_cost" (eVar 7))))))))))))))))))
def F_init_Sheet : Fn := fnS finR 8 9 B_init_Sheet
abbrev ps_ascending_cells : List Str := ["cells"]
abbrev N_ascending_cells : List Str := ["cells", "pairs", "x", "y", "at", "pair"]
def C_ascending_cells_0 : Ex := eTup (aCons (eVar 2) (aCons (eVar 3) (aNil)))
def C_ascending_cells_1 : Ex := eVar 5
def B_ascending_cells : Sx := sSeq (sAsg (eC1 cSorted (aCons (eLc (iAny (eVar 0)) (gTup (gCons (gName 2) (gCons (gName 3) (gNil)))) [2, 3] (tYes) ((C_ascending_cells_0))) (aNil))) (gName 1)) (sRet (eC1 cTuple (aCons (eLc (iEnum (eVar 1)) (gTup (gCons (gName 4) (gCons (gName 5) (gNil)))) [4, 5] (tOr (tB (eB oEq (eVar 4) (eC (.int 0)))) (tB (eB oNe (eVar 5) (eB oIx (eVar 1) (eB oSub (eVar 4) (eC (.int 1))))))) ((C_ascending_cells_1))) (aNil))))
def F_ascending_cells : Fn := fnS finR 1 6 B_ascending_cells
abbrev ps_init_Board : List Str := ["self", "name", "length", "width", "cost", "trim", "faults"]
abbrev N_init_Board : List Str := ["self", "name", "length", "width", "cost", "trim", "faults", "x", "y"]
def L_init_Board_0 : Sx := sIf (tNot (tAnd (tB (eCh oLe oLt (eC (.int 0)) (eVar 7) (eVar 2))) (tB (eCh oLe oLt (eC (.int 0)) (eVar 8) (eVar 3))))) (sBad) (sNil)
def B_init_Board : Sx := sSeq (sDrop (eCall (F_check_name) (aCons (eVar 1) (aNil)))) (sSeq (sDrop (eCall (F_check_sides) (aCons (eVar 2) (aCons (eVar 3) (aNil))))) (sSeq (sDrop (eCall (F_in_range) (aCons (eC (.str "cost")) (aCons (eVar 4) (aCons (eC (.int 0)) (aCons (eC (.int 1000000000)) (aNil))))))) (sSeq (sIf (tOr (tB (eB oLt (eVar 5) (eC (.int 0)))) (tOr (tB (eB oGe (eB oMul (eC (.int 2)) (eVar 5)) (eVar 2))) (tB (eB oGe (eB oMul (eC (.int 2)) (eVar 5)) (eVar 3))))) (sBad) (sNil)) (sSeq (sDrop (eCall (F_in_range) (aCons (eC (.str "area")) (aCons (eB oMul (eB oSub (eVar 2) (eB oMul (eC (.int 2)) (eVar 5))) (eB oSub (eVar 3) (eB oMul (eC (.int 2)) (eVar 5)))) (aCons (eC (.int 1)) (aCons (eC (.int 120)) (aNil))))))) (sSeq (sIf (tB (eB oGt (eC1 cLen (aCons (eVar 6) (aNil))) (eC (.int 4)))) (sBad) (sNil)) (sSeq (sFor (iAny (eVar 6)) (gTup (gCons (gName 7) (gCons (gName 8) (gNil)))) ((L_init_Board_0))) (sSeq (sFld pg 0 "name" (eVar 1)) (sSeq (sFld pg 0 "length" (eVar 2)) (sSeq (sFld pg 0 "width" (eVar 3)) (sSeq (sFld pg 0 "cost" (eVar 4)) (sSeq (sFld pg 0 "trim" (eVar 5)) (sFld pg 0 "faults" (eCall (F_ascending_cells) (aCons (eVar 6) (aNil)))))))))))))))
def F_init_Board : Fn := fnS finR 7 9 B_init_Board
abbrev ps__law_built : List Str := ["d"]
abbrev N__law_built : List Str := ["d", "kinds", "rests", "days", "k", "a"]
def C__law_built_0 : Ex := eMake "Kind" (F_init_Kind) (fun xs ys => perm [0, 1, 2, 3, 4] (xs ++ ([.int 0] ++ ([] ++ ys)))) (aCons (eB oIx (eVar 5) (eC (.int 0))) (aCons (eB oIx (eVar 5) (eC (.int 1))) (aCons (eB oIx (eVar 5) (eC (.int 2))) (aNil)))) (aCons (eB oIx (eVar 5) (eC (.int 3))) (aNil))
def C__law_built_1 : Ex := eMake "Rest" (F_init_Rest) (fun xs ys => perm [0, 1, 2, 3] (xs ++ ([.int 0] ++ ys))) (aCons (eB oIx (eVar 5) (eC (.int 0))) (aCons (eB oIx (eVar 5) (eC (.int 1))) (aCons (eB oIx (eVar 5) (eC (.int 2))) (aNil)))) (aNil)
def L__law_built_0 : Sx := sApp 3 (eMake "Day" (F_init_Day) (fun xs ys => perm [0, 1] (xs ++ ys)) (aCons (eB oMul (eLst (aCons (eTup (aCons (eC (.int 0)) (aCons (eC (.int 0)) (aNil)))) (aNil))) (eC1 cLen (aCons (eB oIx (eVar 0) (eC (.int 0))) (aNil)))) (aCons (eTup (aCons (eC (.int 1)) (aNil))) (aNil))) (aNil))
def B__law_built : Sx := sSeq (sAsg (eLc (iAny (eB oIx (eVar 0) (eC (.int 0)))) (gName 5) [5] (tYes) ((C__law_built_0))) (gName 1)) (sSeq (sAsg (eLc (iAny (eB oIx (eVar 0) (eC (.int 1)))) (gName 5) [5] (tYes) ((C__law_built_1))) (gName 2)) (sSeq (sAsg (eLstL (aNil)) (gName 3)) (sSeq (sFor (iRng1 (aCons (eB oIx (eVar 0) (eC (.int 2))) (aNil))) (gName 4) ((L__law_built_0))) (sSeq (sFrz 3) (sRet (eMake "Sheet" (F_init_Sheet) (fun xs ys => perm [0, 1, 2, 5, 3, 6, 4] (xs ++ ([.int 0, .int 0] ++ ys))) (aCons (eVar 1) (aCons (eLst (aCons (eMake "Board" (F_init_Board) (fun xs ys => perm [0, 1, 2, 3, 4, 5] (xs ++ ([.int 0, .tup []] ++ ys))) (aCons (eC (.str "z")) (aCons (eC (.int 2)) (aCons (eC (.int 2)) (aCons (eC (.int 0)) (aNil))))) (aNil)) (aNil))) (aCons (eVar 3) (aNil)))) (aCons (eVar 2) (aCons (eB oIx (eVar 0) (eC (.int 3))) (aNil)))))))))
def F__law_built : Fn := fnS finR 1 6 B__law_built
abbrev ps__law_part : List Str := ["p", "d"]
abbrev N__law_part : List Str := ["p", "d", "days", "stages", "state", "things", "row", "sides", "k", "mode", "length", "width", "part", "left", "cells"]
def L__law_part_0 : Sx := sSet 7 (eVar 8) (eB oSub (eB oAdd (eB oIx (eVar 7) (eVar 8)) (eCall (F__law_draw) (aCons (eVar 0) (aCons (eC (.int 3)) (aNil))))) (eC (.int 1)))
def B__law_part : Sx := sSeq (sAsg (eB oIx (eVar 1) (eC (.int 2))) (gName 2)) (sSeq (sAsg (eB oIx (eVar 1) (eC (.int 3))) (gName 3)) (sSeq (sAsg (eTup (aCons (eU oNeg (eC (.int 1))) (aCons (eC (.int 0)) (aNil)))) (gName 4)) (sSeq (sIf (tB (eB oNotN (eVar 3) (eC .non))) (sSeq (sAsg (eCall (F__law_draw) (aCons (eVar 0) (aCons (eB oAdd (eVar 3) (eC (.int 1))) (aNil)))) (gName 13)) (sSeq (sAsg (eTup (aCons (eVar 13) (aCons (eC (.int 0)) (aNil)))) (gName 4)) (sIf (tB (eB oLt (eVar 13) (eVar 3))) (sAsg (eTup (aCons (eVar 13) (aCons (eB oAdd (eC (.int 1)) (eCall (F__law_draw) (aCons (eVar 0) (aCons (eC (.int 2)) (aNil))))) (aNil)))) (gName 4)) (sNil)))) (sNil)) (sSeq (sAsg (eB oAdd (eB oIx (eVar 1) (eC (.int 0))) (eB oIx (eVar 1) (eC (.int 1)))) (gName 5)) (sSeq (sAsg (eB oIx (eVar 5) (eCall (F__law_draw) (aCons (eVar 0) (aCons (eC1 cLen (aCons (eVar 5) (aNil))) (aNil))))) (gName 6)) (sSeq (sAsg (eLstL (aCons (eB oIx (eVar 6) (eC (.int 1))) (aCons (eB oIx (eVar 6) (eC (.int 2))) (aNil)))) (gName 7)) (sSeq (sIf (tB (eB oEq (eCall (F__law_draw) (aCons (eVar 0) (aCons (eC (.int 3)) (aNil)))) (eC (.int 1)))) (sAsg (eLstL (aCons (eB oIx (eVar 6) (eC (.int 2))) (aCons (eB oIx (eVar 6) (eC (.int 1))) (aNil)))) (gName 7)) (sNil)) (sSeq (sFor (iRng1 (aCons (eC (.int 2)) (aNil))) (gName 8) ((L__law_part_0))) (sSeq (sFrz 7) (sSeq (sAsg (eCall (F__law_draw) (aCons (eVar 0) (aCons (eC (.int 8)) (aNil)))) (gName 9)) (sSeq (sIf (tB (eB oGt (eVar 9) (eC (.int 4)))) (sAsg (eB oIx (eLst (aCons (eLst (aCons (eC (.int 60)) (aCons (eC (.int 2)) (aNil)))) (aCons (eLst (aCons (eC (.int 12)) (aCons (eC (.int 10)) (aNil)))) (aCons (eLst (aCons (eC (.int 1)) (aCons (eC (.int 1)) (aNil)))) (aNil))))) (eB oSub (eVar 9) (eC (.int 5)))) (gName 7)) (sNil)) (sSeq (sAsg (eC1 cMin (aCons (eC1 cMax (aCons (eB oIx (eVar 7) (eC (.int 0))) (aCons (eC (.int 1)) (aNil)))) (aCons (eC (.int 60)) (aNil)))) (gName 10)) (sSeq (sAsg (eC1 cMin3 (aCons (eC1 cMax (aCons (eB oIx (eVar 7) (eC (.int 1))) (aCons (eC (.int 1)) (aNil)))) (aCons (eB oDiv (eC (.int 120)) (eVar 10)) (aCons (eC (.int 60)) (aNil))))) (gName 11)) (sSeq (sAsg (eB oAdd (eTup (aCons (eCall (F__law_draw) (aCons (eVar 0) (aCons (eVar 2) (aNil)))) (aCons (eVar 10) (aCons (eVar 11) (aNil))))) (eVar 4)) (gName 12)) (sSeq (sIf (tB (eB oEq (eCall (F__law_draw) (aCons (eVar 0) (aCons (eC (.int 3)) (aNil)))) (eC (.int 1)))) (sSeq (sAsg (eLstL (aCons (eTup (aCons (eC (.int 0)) (aCons (eC (.int 0)) (aNil)))) (aCons (eTup (aCons (eB oSub (eVar 10) (eC (.int 1))) (aCons (eB oSub (eVar 11) (eC (.int 1))) (aNil)))) (aNil)))) (gName 14)) (sSeq (sApp 14 (eTup (aCons (eCall (F__law_draw) (aCons (eVar 0) (aCons (eVar 10) (aNil)))) (aCons (eCall (F__law_draw) (aCons (eVar 0) (aCons (eVar 11) (aNil)))) (aNil))))) (sSeq (sFrz 14) (sAsg (eB oAdd (eVar 12) (eB oIx (eVar 14) (eCall (F__law_draw) (aCons (eVar 0) (aCons (eC (.int 3)) (aNil)))))) (gName 12))))) (sNil)) (sRet (eVar 12)))))))))))))))))
def F__law_part : Fn := fnS finR 2 15 B__law_part
abbrev ps__law_same : List Str := ["told", "due"]
abbrev N__law_same : List Str := ["told", "due", "k"]
def L__law_same_0 (rec : Fn) : Sx := sIf (tNot (tB (eCall (rec) (aCons (eB oIx (eVar 0) (eVar 2)) (aCons (eB oIx (eVar 1) (eVar 2)) (aNil)))))) (sRet (eC (.bl false))) (sNil)
def B__law_same (rec : Fn) : Sx := sSeq (sIf (tB (eB oIsN (eVar 1) (eC .non))) (sRet (eB oIsN (eVar 0) (eC .non))) (sNil)) (sSeq (sIf (tB (eC1 (cIsi pg) (aCons (eVar 1) (aCons (eC (.ty "bool")) (aNil))))) (sRet (eAnd (eC1 (cIsi pg) (aCons (eVar 0) (aCons (eC (.ty "bool")) (aNil)))) (eB oEq (eVar 0) (eVar 1)))) (sNil)) (sSeq (sIf (tB (eC1 (cIsi pg) (aCons (eVar 1) (aCons (eC (.ty "int")) (aNil))))) (sRet (eAnd (eC1 (cIsi pg) (aCons (eVar 0) (aCons (eC (.ty "int")) (aNil)))) (eAnd (eNot (eC1 (cIsi pg) (aCons (eVar 0) (aCons (eC (.ty "bool")) (aNil))))) (eB oEq (eVar 0) (eVar 1))))) (sNil)) (sSeq (sIf (tB (eC1 (cIsi pg) (aCons (eVar 1) (aCons (eC (.ty "str")) (aNil))))) (sRet (eAnd (eC1 (cIsi pg) (aCons (eVar 0) (aCons (eC (.ty "str")) (aNil)))) (eB oEq (eVar 0) (eVar 1)))) (sNil)) (sSeq (sIf (tAnd (tB (eC1 (cIsi pg) (aCons (eVar 1) (aCons (eC (.ty "tuple")) (aNil))))) (tNot (tB (eC1 (cIsi pg) (aCons (eVar 0) (aCons (eC (.ty "tuple")) (aNil))))))) (sRet (eC (.bl false))) (sNil)) (sSeq (sIf (tAnd (tB (eC1 (cIsi pg) (aCons (eVar 1) (aCons (eC (.ty "list")) (aNil))))) (tNot (tB (eC1 (cIsi pg) (aCons (eVar 0) (aCons (eC (.ty "list")) (aNil))))))) (sRet (eC (.bl false))) (sNil)) (sSeq (sIf (tB (eB oNe (eC1 cLen (aCons (eVar 0) (aNil))) (eC1 cLen (aCons (eVar 1) (aNil))))) (sRet (eC (.bl false))) (sNil)) (sSeq (sFor (iRng1 (aCons (eC1 cLen (aCons (eVar 1) (aNil))) (aNil))) (gName 2) ((L__law_same_0 rec))) (sRet (eC (.bl true))))))))))
def F__law_same : Nat → Fn
  | 0 => fun _ _ => .bad
  | n + 1 => fnS finR 2 3 (B__law_same (F__law_same n))
abbrev ps_is_clean : List Str := ["part"]
abbrev N_is_clean : List Str := ["part"]
def B_is_clean : Sx := sRet (eB oEq (eC1 cLen (aCons (eVar 0) (aNil))) (eC (.int 5)))
def F_is_clean : Fn := fnS finR 1 1 B_is_clean
abbrev ps__law_fitting : List Str := ["d", "part", "index"]
abbrev N__law_fitting : List Str := ["d", "part", "index", "row", "good"]
def B__law_fitting : Sx := sSeq (sIf (tOr (tB (eB oLt (eVar 2) (eC (.int 0)))) (tB (eB oGe (eVar 2) (eC1 cLen (aCons (eB oIx (eVar 0) (eC (.int 0))) (aNil)))))) (sRet (eTup (aCons (eC (.str "NoThing")) (aCons (eC (.str "kind")) (aCons (eVar 2) (aNil)))))) (sNil)) (sSeq (sAsg (eB oIx (eB oIx (eVar 0) (eC (.int 0))) (eVar 2)) (gName 3)) (sSeq (sAsg (eAnd (eB oLe (eB oIx (eVar 3) (eC (.int 1))) (eB oIx (eVar 1) (eC (.int 1)))) (eB oLe (eB oIx (eVar 3) (eC (.int 2))) (eB oIx (eVar 1) (eC (.int 2))))) (gName 4)) (sSeq (sIf (tAnd (tB (eB oIx (eVar 3) (eC (.int 3)))) (tAnd (tB (eB oLe (eB oIx (eVar 3) (eC (.int 2))) (eB oIx (eVar 1) (eC (.int 1))))) (tB (eB oLe (eB oIx (eVar 3) (eC (.int 1))) (eB oIx (eVar 1) (eC (.int 2))))))) (sAsg (eC (.bl true)) (gName 4)) (sNil)) (sRet (eTup (aCons (eC (.str "fits")) (aCons (eAnd (eVar 4) (eB oEq (eC1 cLen (aCons (eVar 1) (aNil))) (eC (.int 5)))) (aNil))))))))
def F__law_fitting : Fn := fnS finR 3 5 B__law_fitting
abbrev ps_x_NoThing : List Str := ["self", "what", "index"]
abbrev N_x_NoThing : List Str := ["self", "what", "index", "__class__"]
abbrev ps_thing_at : List Str := ["things", "what", "index"]
abbrev N_thing_at : List Str := ["things", "what", "index"]
def B_thing_at : Sx := sSeq (sIf (tNot (tB (eCh oLe oLt (eC (.int 0)) (eVar 2) (eC1 cLen (aCons (eVar 0) (aNil)))))) (sRaise "NoThing" ["what", "index"] (txtAt 0) (aCons (eVar 1) (aCons (eVar 2) (aNil)))) (sNil)) (sRet (eB oIx (eVar 0) (eVar 2)))
def F_thing_at : Fn := fnS finR 3 3 B_thing_at
abbrev ps_kind_at : List Str := ["sheet", "index"]
abbrev N_kind_at : List Str := ["sheet", "index"]
def B_kind_at : Sx := sRet (eCall (F_thing_at) (aCons (eFld pg (eVar 0) "kinds") (aCons (eC (.str "kind")) (aCons (eVar 1) (aNil)))))
def F_kind_at : Fn := fnS finR 2 2 B_kind_at
abbrev ps_fits : List Str := ["sheet", "part", "kind"]
abbrev N_fits : List Str := ["sheet", "part", "kind", "one"]
def B_fits : Sx := sSeq (sAsg (eCall (F_kind_at) (aCons (eVar 0) (aCons (eVar 2) (aNil)))) (gName 3)) (sSeq (sIf (tNot (tB (eCall (F_is_clean) (aCons (eVar 1) (aNil))))) (sRet (eC (.bl false))) (sNil)) (sSeq (sIf (tAnd (tB (eB oLe (eFld pg (eVar 3) "length") (eB oIx (eVar 1) (eC (.int 1))))) (tB (eB oLe (eFld pg (eVar 3) "width") (eB oIx (eVar 1) (eC (.int 2)))))) (sRet (eC (.bl true))) (sNil)) (sRet (eAnd (eFld pg (eVar 3) "turns") (eAnd (eB oLe (eFld pg (eVar 3) "width") (eB oIx (eVar 1) (eC (.int 1)))) (eB oLe (eFld pg (eVar 3) "length") (eB oIx (eVar 1) (eC (.int 2)))))))))
def F_fits : Fn := fnS finR 3 4 B_fits
abbrev ps_hot__law_fields : List Str := ["error"]
abbrev N_hot__law_fields : List Str := ["error", "found"]
def B_hot__law_fields : Sx := sSeq (sIf (tB (eC1 (cIsx pg) (aCons (eVar 0) (aCons (eTup (aCons (eC (.cls "NoCut")) (aCons (eC (.cls "NoName")) (aCons (eC (.cls "OutOfRange")) (aNil))))) (aNil))))) (sRet (eTup (aCons (eC (.str "another class")) (aNil)))) (sNil)) (sSeq (sAsg (eLst (aCons (eC1 (cIsx pg) (aCons (eVar 0) (aCons (eC (.cls "NoThing")) (aNil)))) (aCons (eC1 (cIsx pg) (aCons (eVar 0) (aCons (eC (.cls "NoKeep")) (aNil)))) (aNil)))) (gName 1)) (sSeq (sIf (tOr (tB (eB oEq (eB oIx (eVar 1) (eC (.int 0))) (eB oIx (eVar 1) (eC (.int 1))))) (tNot (tB (eC1 (cIsx pg) (aCons (eVar 0) (aCons (eC (.ty "ValueError")) (aNil))))))) (sRet (eTup (aCons (eC (.str "another class")) (aNil)))) (sNil)) (sSeq (sIf (tB (eB oIx (eVar 1) (eC (.int 0)))) (sRet (eTup (aCons (eC (.str "NoThing")) (aCons (eXf pg (eVar 0) "what") (aCons (eXf pg (eVar 0) "index") (aNil)))))) (sNil)) (sRet (eTup (aCons (eC (.str "NoKeep")) (aNil)))))))
def F_hot__law_fields : Fn := fnS finR 1 2 B_hot__law_fields
abbrev ps__law_fit : List Str := ["sheet", "part", "index"]
abbrev N__law_fit : List Str := ["sheet", "part", "index", "e", "flag"]
def B__law_fit : Sx := sSeq (sTry (sIf (tB (eB oEq (eVar 2) (eC (.int 1)))) (sAsg (eCallG (F_fits) (fun xs ys => perm [0, 2, 1] (xs ++ ys)) (aCons (eVar 0) (aNil)) (aCons (eVar 2) (aCons (eVar 1) (aNil)))) (gName 4)) (sAsg (eCall (F_fits) (aCons (eVar 0) (aCons (eVar 1) (aCons (eVar 2) (aNil))))) (gName 4))) (subT sub_CutError) 3 (sRet (eCall (F_hot__law_fields) (aCons (eVar 3) (aNil))))) (sRet (eTup (aCons (eC (.str "fits")) (aCons (eVar 4) (aNil)))))
def F__law_fit : Fn := fnS finR 3 5 B__law_fit
abbrev ps__law_keeping : List Str := ["d", "part", "index"]
abbrev N__law_keeping : List Str := ["d", "part", "index", "row", "left"]
def B__law_keeping : Sx := sSeq (sIf (tOr (tB (eB oLt (eVar 2) (eC (.int 0)))) (tB (eB oGe (eVar 2) (eC1 cLen (aCons (eB oIx (eVar 0) (eC (.int 1))) (aNil)))))) (sRet (eTup (aCons (eC (.str "NoThing")) (aCons (eC (.str "rest")) (aCons (eVar 2) (aNil)))))) (sNil)) (sSeq (sAsg (eB oIx (eB oIx (eVar 0) (eC (.int 1))) (eVar 2)) (gName 3)) (sSeq (sIf (tOr (tB (eB oGe (eB oAdd (eB oIx (eVar 1) (eC (.int 0))) (eC (.int 1))) (eB oIx (eVar 0) (eC (.int 2))))) (tB (eB oGt (eC1 cLen (aCons (eVar 1) (aNil))) (eC (.int 5))))) (sRet (eTup (aCons (eC (.str "NoKeep")) (aNil)))) (sNil)) (sSeq (sIf (tOr (tB (eB oGt (eB oIx (eVar 3) (eC (.int 1))) (eB oIx (eVar 1) (eC (.int 1))))) (tB (eB oGt (eB oIx (eVar 3) (eC (.int 2))) (eB oIx (eVar 1) (eC (.int 2)))))) (sRet (eTup (aCons (eC (.str "NoKeep")) (aNil)))) (sNil)) (sSeq (sAsg (eIf (tB (eB oIsN (eB oIx (eVar 0) (eC (.int 3))) (eC .non))) (eU oNeg (eC (.int 1))) (eB oIx (eVar 0) (eC (.int 3)))) (gName 4)) (sRet (eTup (aCons (eC (.str "kept")) (aCons (eTup (aCons (eB oAdd (eB oIx (eVar 1) (eC (.int 0))) (eC (.int 1))) (aCons (eB oIx (eVar 3) (eC (.int 1))) (aCons (eB oIx (eVar 3) (eC (.int 2))) (aCons (eVar 4) (aCons (eC (.int 0)) (aNil))))))) (aNil)))))))))
def F__law_keeping : Fn := fnS finR 3 5 B__law_keeping
abbrev ps_rest_at : List Str := ["sheet", "index"]
abbrev N_rest_at : List Str := ["sheet", "index"]
def B_rest_at : Sx := sRet (eCall (F_thing_at) (aCons (eFld pg (eVar 0) "rests") (aCons (eC (.str "rest")) (aCons (eVar 1) (aNil)))))
def F_rest_at : Fn := fnS finR 2 2 B_rest_at
abbrev ps_holds_rest : List Str := ["part", "one"]
abbrev N_holds_rest : List Str := ["part", "one"]
def B_holds_rest : Sx := sRet (eAnd (eCall (F_is_clean) (aCons (eVar 0) (aNil))) (eAnd (eB oLe (eFld pg (eVar 1) "length") (eB oIx (eVar 0) (eC (.int 1)))) (eB oLe (eFld pg (eVar 1) "width") (eB oIx (eVar 0) (eC (.int 2))))))
def F_holds_rest : Fn := fnS finR 2 2 B_holds_rest
abbrev ps_x_NoKeep : List Str := ["self"]
abbrev N_x_NoKeep : List Str := ["self", "__class__"]
abbrev ps_day_at : List Str := ["sheet", "index"]
abbrev N_day_at : List Str := ["sheet", "index"]
def B_day_at : Sx := sRet (eCall (F_thing_at) (aCons (eFld pg (eVar 0) "days") (aCons (eC (.str "day")) (aCons (eVar 1) (aNil)))))
def F_day_at : Fn := fnS finR 2 2 B_day_at
abbrev ps_part_from : List Str := ["day", "length", "width", "left", "way", "cells"]
abbrev N_part_from : List Str := ["day", "length", "width", "left", "way", "cells", "entries", "x", "y"]
def L_part_from_0 : Sx := sSeq (sApp 6 (eVar 7)) (sApp 6 (eVar 8))
def B_part_from : Sx := sSeq (sAsg (eLstL (aCons (eVar 0) (aCons (eVar 1) (aCons (eVar 2) (aCons (eVar 3) (aCons (eVar 4) (aNil))))))) (gName 6)) (sSeq (sFor (iAny (eVar 5)) (gTup (gCons (gName 7) (gCons (gName 8) (gNil)))) ((L_part_from_0))) (sSeq (sFrz 6) (sRet (eC1 cTuple (aCons (eVar 6) (aNil))))))
def F_part_from : Fn := fnS finR 6 9 B_part_from
abbrev ps_first_left : List Str := ["sheet"]
abbrev N_first_left : List Str := ["sheet"]
def B_first_left : Sx := sRet (eIf (tB (eB oIsN (eFld pg (eVar 0) "stages") (eC .non))) (eU oNeg (eC (.int 1))) (eFld pg (eVar 0) "stages"))
def F_first_left : Fn := fnS finR 1 1 B_first_left
abbrev ps_rest_part : List Str := ["sheet", "rest", "day"]
abbrev N_rest_part : List Str := ["sheet", "rest", "day", "one"]
def B_rest_part : Sx := sSeq (sAsg (eCall (F_rest_at) (aCons (eVar 0) (aCons (eVar 1) (aNil)))) (gName 3)) (sSeq (sDrop (eCall (F_day_at) (aCons (eVar 0) (aCons (eVar 2) (aNil))))) (sRet (eCall (F_part_from) (aCons (eVar 2) (aCons (eFld pg (eVar 3) "length") (aCons (eFld pg (eVar 3) "width") (aCons (eCall (F_first_left) (aCons (eVar 0) (aNil))) (aCons (eC (.int 0)) (aCons (eLst (aNil)) (aNil))))))))))
def F_rest_part : Fn := fnS finR 3 4 B_rest_part
abbrev ps_kept_part : List Str := ["sheet", "part", "rest"]
abbrev N_kept_part : List Str := ["sheet", "part", "rest", "one", "tomorrow"]
def B_kept_part : Sx := sSeq (sAsg (eCall (F_rest_at) (aCons (eVar 0) (aCons (eVar 2) (aNil)))) (gName 3)) (sSeq (sAsg (eB oAdd (eB oIx (eVar 1) (eC (.int 0))) (eC (.int 1))) (gName 4)) (sSeq (sIf (tOr (tB (eB oGe (eVar 4) (eC1 cLen (aCons (eFld pg (eVar 0) "days") (aNil))))) (tNot (tB (eCall (F_holds_rest) (aCons (eVar 1) (aCons (eVar 3) (aNil))))))) (sRaise "NoKeep" [] txt0 aNil) (sNil)) (sRet (eCall (F_rest_part) (aCons (eVar 0) (aCons (eVar 2) (aCons (eVar 4) (aNil))))))))
def F_kept_part : Fn := fnS finR 3 5 B_kept_part
abbrev ps__law_kept : List Str := ["sheet", "part", "index"]
abbrev N__law_kept : List Str := ["sheet", "part", "index", "e", "piece"]
def B__law_kept : Sx := sSeq (sTry (sIf (tB (eB oEq (eVar 2) (eC (.int 1)))) (sAsg (eCallG (F_kept_part) (fun xs ys => perm [0, 2, 1] (xs ++ ys)) (aCons (eVar 0) (aNil)) (aCons (eVar 2) (aCons (eVar 1) (aNil)))) (gName 4)) (sAsg (eCall (F_kept_part) (aCons (eVar 0) (aCons (eVar 1) (aCons (eVar 2) (aNil))))) (gName 4))) (subT sub_CutError) 3 (sRet (eCall (F_hot__law_fields) (aCons (eVar 3) (aNil))))) (sRet (eTup (aCons (eC (.str "kept")) (aCons (eVar 4) (aNil)))))
def F__law_kept : Fn := fnS finR 3 5 B__law_kept
abbrev ps_law : List Str := ["script"]
abbrev N_law : List Str := ["script", "p", "d", "sheet", "k", "part", "index", "want"]
def L_law_0 : Sx := sSeq (sAsg (eCall (F__law_fitting) (aCons (eVar 2) (aCons (eVar 5) (aCons (eVar 6) (aNil))))) (gName 7)) (sSeq (sIf (tNot (tB (eCall (F__law_same 8) (aCons (eCall (F__law_fit) (aCons (eVar 3) (aCons (eVar 5) (aCons (eVar 6) (aNil))))) (aCons (eVar 7) (aNil)))))) (sRet (eC (.bl false))) (sNil)) (sSeq (sAsg (eCall (F__law_keeping) (aCons (eVar 2) (aCons (eVar 5) (aCons (eVar 6) (aNil))))) (gName 7)) (sIf (tNot (tB (eCall (F__law_same 8) (aCons (eCall (F__law_kept) (aCons (eVar 3) (aCons (eVar 5) (aCons (eVar 6) (aNil))))) (aCons (eVar 7) (aNil)))))) (sRet (eC (.bl false))) (sNil))))
def L_law_1 : Sx := sSeq (sAsg (eCall (F__law_part) (aCons (eVar 1) (aCons (eVar 2) (aNil)))) (gName 5)) (sSeq (sIf (tNot (tB (eCall (F__law_same 8) (aCons (eCall (F_is_clean) (aCons (eVar 5) (aNil))) (aCons (eB oEq (eC1 cLen (aCons (eVar 5) (aNil))) (eC (.int 5))) (aNil)))))) (sRet (eC (.bl false))) (sNil)) (sFor (iAny (eB oAdd (eLrg (eU oNeg (eC (.int 1))) (eC (.int 7))) (eLst (aCons (eB oPow (eC (.int 10)) (eC (.int 30))) (aNil))))) (gName 6) ((L_law_0))))
def B_law : Sx := sSeq (sAsg (eCall (F__law_pool) (aCons (eVar 0) (aNil))) (gName 1)) (sSeq (sAsg (eCall (F__law_drawn) (aCons (eVar 1) (aNil))) (gName 2)) (sSeq (sAsg (eCall (F__law_built) (aCons (eVar 2) (aNil))) (gName 3)) (sSeq (sFor (iRng1 (aCons (eC (.int 4)) (aNil))) (gName 4) ((L_law_1))) (sRet (eC (.bl true))))))
def F_law : Fn := fnS finR 1 8 B_law
end K08

set_option Elab.async false
set_option linter.all false
set_option maxRecDepth 100000
set_option maxHeartbeats 4000000
/-! K08_K: each def keeps its promise. -/
namespace K08
open Cb
open PySem PySem.Spec PyProof.Rows L2
def top (i : Nat) : Stmt := PySem.Challenge.pw_cutboards_k08_pieces_fit.main.body.getD i (.Pass ⟨0, 0, 0, 0⟩)
def clsBody (s : Stmt) : List Stmt := match s with
  | .ClassDef (body := b) .. => b
  | _ => []
abbrev s__law_pool : Stmt := top 91
theorem sc__law_pool : FnScope N__law_pool ps__law_pool (defScope s__law_pool) := ⟨rfl, rfl, rfl, by decide +kernel, rfl, by decide +kernel, by decide +kernel⟩
abbrev s__law_draw : Stmt := top 92
theorem sc__law_draw : FnScope N__law_draw ps__law_draw (defScope s__law_draw) := ⟨rfl, rfl, rfl, by decide +kernel, rfl, by decide +kernel, by decide +kernel⟩
abbrev s__law_sides : Stmt := top 94
theorem sc__law_sides : FnScope N__law_sides ps__law_sides (defScope s__law_sides) := ⟨rfl, rfl, rfl, by decide +kernel, rfl, by decide +kernel, by decide +kernel⟩
abbrev s__law_drawn : Stmt := top 95
theorem sc__law_drawn : FnScope N__law_drawn ps__law_drawn (defScope s__law_drawn) := ⟨rfl, rfl, rfl, by decide +kernel, rfl, by decide +kernel, by decide +kernel⟩
abbrev s_is_name : Stmt := top 36
theorem sc_is_name : FnScope N_is_name ps_is_name (defScope s_is_name) := ⟨rfl, rfl, rfl, by decide +kernel, rfl, by decide +kernel, by decide +kernel⟩
abbrev s_check_name : Stmt := top 37
theorem sc_check_name : FnScope N_check_name ps_check_name (defScope s_check_name) := ⟨rfl, rfl, rfl, by decide +kernel, rfl, by decide +kernel, by decide +kernel⟩
abbrev s_in_range : Stmt := top 38
theorem sc_in_range : FnScope N_in_range ps_in_range (defScope s_in_range) := ⟨rfl, rfl, rfl, by decide +kernel, rfl, by decide +kernel, by decide +kernel⟩
abbrev s_check_sides : Stmt := top 39
theorem sc_check_sides : FnScope N_check_sides ps_check_sides (defScope s_check_sides) := ⟨rfl, rfl, rfl, by decide +kernel, rfl, by decide +kernel, by decide +kernel⟩
abbrev s_init_Kind : Stmt := (clsBody (top 49)).getD 0 (.Pass ⟨0, 0, 0, 0⟩)
theorem sc_init_Kind : FnScope N_init_Kind ps_init_Kind (defScope s_init_Kind) := ⟨rfl, rfl, rfl, by decide +kernel, rfl, by decide +kernel, by decide +kernel⟩
abbrev s_init_Rest : Stmt := (clsBody (top 50)).getD 0 (.Pass ⟨0, 0, 0, 0⟩)
theorem sc_init_Rest : FnScope N_init_Rest ps_init_Rest (defScope s_init_Rest) := ⟨rfl, rfl, rfl, by decide +kernel, rfl, by decide +kernel, by decide +kernel⟩
abbrev s_init_Day : Stmt := (clsBody (top 47)).getD 0 (.Pass ⟨0, 0, 0, 0⟩)
theorem sc_init_Day : FnScope N_init_Day ps_init_Day (defScope s_init_Day) := ⟨rfl, rfl, rfl, by decide +kernel, rfl, by decide +kernel, by decide +kernel⟩
abbrev s_check_many : Stmt := top 85
theorem sc_check_many : FnScope N_check_many ps_check_many (defScope s_check_many) := ⟨rfl, rfl, rfl, by decide +kernel, rfl, by decide +kernel, by decide +kernel⟩
abbrev s_check_names : Stmt := top 86
theorem sc_check_names : FnScope N_check_names ps_check_names (defScope s_check_names) := ⟨rfl, rfl, rfl, by decide +kernel, rfl, by decide +kernel, by decide +kernel⟩
abbrev s_check_days : Stmt := top 87
theorem sc_check_days : FnScope N_check_days ps_check_days (defScope s_check_days) := ⟨rfl, rfl, rfl, by decide +kernel, rfl, by decide +kernel, by decide +kernel⟩
abbrev s_count_lots : Stmt := top 88
theorem sc_count_lots : FnScope N_count_lots ps_count_lots (defScope s_count_lots) := ⟨rfl, rfl, rfl, by decide +kernel, rfl, by decide +kernel, by decide +kernel⟩
abbrev s_init_Sheet : Stmt := (clsBody (top 89)).getD 2 (.Pass ⟨0, 0, 0, 0⟩)
theorem sc_init_Sheet : FnScope N_init_Sheet ps_init_Sheet (defScope s_init_Sheet) := ⟨rfl, rfl, rfl, by decide +kernel, rfl, by decide +kernel, by decide +kernel⟩
abbrev s_ascending_cells : Stmt := top 42
theorem sc_ascending_cells : FnScope N_ascending_cells ps_ascending_cells (defScope s_ascending_cells) := ⟨rfl, rfl, rfl, by decide +kernel, rfl, by decide +kernel, by decide +kernel⟩
abbrev s_init_Board : Stmt := (clsBody (top 43)).getD 0 (.Pass ⟨0, 0, 0, 0⟩)
theorem sc_init_Board : FnScope N_init_Board ps_init_Board (defScope s_init_Board) := ⟨rfl, rfl, rfl, by decide +kernel, rfl, by decide +kernel, by decide +kernel⟩
abbrev s__law_built : Stmt := top 96
theorem sc__law_built : FnScope N__law_built ps__law_built (defScope s__law_built) := ⟨rfl, rfl, rfl, by decide +kernel, rfl, by decide +kernel, by decide +kernel⟩
abbrev s__law_part : Stmt := top 97
theorem sc__law_part : FnScope N__law_part ps__law_part (defScope s__law_part) := ⟨rfl, rfl, rfl, by decide +kernel, rfl, by decide +kernel, by decide +kernel⟩
abbrev s__law_same : Stmt := top 93
theorem sc__law_same : FnScope N__law_same ps__law_same (defScope s__law_same) := ⟨rfl, rfl, rfl, by decide +kernel, rfl, by decide +kernel, by decide +kernel⟩
abbrev s_is_clean : Stmt := top 22
theorem sc_is_clean : FnScope N_is_clean ps_is_clean (defScope s_is_clean) := ⟨rfl, rfl, rfl, by decide +kernel, rfl, by decide +kernel, by decide +kernel⟩
abbrev s__law_fitting : Stmt := top 99
theorem sc__law_fitting : FnScope N__law_fitting ps__law_fitting (defScope s__law_fitting) := ⟨rfl, rfl, rfl, by decide +kernel, rfl, by decide +kernel, by decide +kernel⟩
abbrev s_x_NoThing : Stmt := (clsBody (top 11)).getD 0 (.Pass ⟨0, 0, 0, 0⟩)
theorem sc_x_NoThing : NdefX.NScope N_x_NoThing ps_x_NoThing ["__class__"] (defScope s_x_NoThing) := NdefX.nscope_by (by decide +kernel)
abbrev s_thing_at : Stmt := top 16
theorem sc_thing_at : FnScope N_thing_at ps_thing_at (defScope s_thing_at) := ⟨rfl, rfl, rfl, by decide +kernel, rfl, by decide +kernel, by decide +kernel⟩
abbrev s_kind_at : Stmt := top 17
theorem sc_kind_at : FnScope N_kind_at ps_kind_at (defScope s_kind_at) := ⟨rfl, rfl, rfl, by decide +kernel, rfl, by decide +kernel, by decide +kernel⟩
abbrev s_fits : Stmt := top 26
theorem sc_fits : FnScope N_fits ps_fits (defScope s_fits) := ⟨rfl, rfl, rfl, by decide +kernel, rfl, by decide +kernel, by decide +kernel⟩
abbrev s_hot__law_fields : Stmt := top 98
theorem sc_hot__law_fields : FnScope N_hot__law_fields ps_hot__law_fields (defScope s_hot__law_fields) := ⟨rfl, rfl, rfl, by decide +kernel, rfl, by decide +kernel, by decide +kernel⟩
abbrev s__law_fit : Stmt := top 101
theorem sc__law_fit : FnScope N__law_fit ps__law_fit (defScope s__law_fit) := ⟨rfl, rfl, rfl, by decide +kernel, rfl, by decide +kernel, by decide +kernel⟩
abbrev s__law_keeping : Stmt := top 100
theorem sc__law_keeping : FnScope N__law_keeping ps__law_keeping (defScope s__law_keeping) := ⟨rfl, rfl, rfl, by decide +kernel, rfl, by decide +kernel, by decide +kernel⟩
abbrev s_rest_at : Stmt := top 18
theorem sc_rest_at : FnScope N_rest_at ps_rest_at (defScope s_rest_at) := ⟨rfl, rfl, rfl, by decide +kernel, rfl, by decide +kernel, by decide +kernel⟩
abbrev s_holds_rest : Stmt := top 27
theorem sc_holds_rest : FnScope N_holds_rest ps_holds_rest (defScope s_holds_rest) := ⟨rfl, rfl, rfl, by decide +kernel, rfl, by decide +kernel, by decide +kernel⟩
abbrev s_x_NoKeep : Stmt := (clsBody (top 14)).getD 0 (.Pass ⟨0, 0, 0, 0⟩)
theorem sc_x_NoKeep : NdefX.NScope N_x_NoKeep ps_x_NoKeep ["__class__"] (defScope s_x_NoKeep) := NdefX.nscope_by (by decide +kernel)
abbrev s_day_at : Stmt := top 19
theorem sc_day_at : FnScope N_day_at ps_day_at (defScope s_day_at) := ⟨rfl, rfl, rfl, by decide +kernel, rfl, by decide +kernel, by decide +kernel⟩
abbrev s_part_from : Stmt := top 23
theorem sc_part_from : FnScope N_part_from ps_part_from (defScope s_part_from) := ⟨rfl, rfl, rfl, by decide +kernel, rfl, by decide +kernel, by decide +kernel⟩
abbrev s_first_left : Stmt := top 24
theorem sc_first_left : FnScope N_first_left ps_first_left (defScope s_first_left) := ⟨rfl, rfl, rfl, by decide +kernel, rfl, by decide +kernel, by decide +kernel⟩
abbrev s_rest_part : Stmt := top 25
theorem sc_rest_part : FnScope N_rest_part ps_rest_part (defScope s_rest_part) := ⟨rfl, rfl, rfl, by decide +kernel, rfl, by decide +kernel, by decide +kernel⟩
abbrev s_kept_part : Stmt := top 28
theorem sc_kept_part : FnScope N_kept_part ps_kept_part (defScope s_kept_part) := ⟨rfl, rfl, rfl, by decide +kernel, rfl, by decide +kernel, by decide +kernel⟩
abbrev s__law_kept : Stmt := top 102
theorem sc__law_kept : FnScope N__law_kept ps__law_kept (defScope s__law_kept) := ⟨rfl, rfl, rfl, by decide +kernel, rfl, by decide +kernel, by decide +kernel⟩
abbrev s_law : Stmt := top 103
theorem sc_law : FnScope N_law ps_law (defScope s_law) := ⟨rfl, rfl, rfl, by decide +kernel, rfl, by decide +kernel, by decide +kernel⟩
structure Txt (K : PySem.W.Frag) (mg : Str → Option Value) : Prop where
  pok : POk K pg
  g_int : mg "int" = none
  g_abs : mg "abs" = none
  g_len : mg "len" = none
  g_range : mg "range" = none
  g_min : mg "min" = none
  g_tuple : mg "tuple" = none
  g_enumerate : mg "enumerate" = none
  g_sum : mg "sum" = none
  g_sorted : mg "sorted" = none
  g_max : mg "max" = none
  g_bool : mg "bool" = none
  g_isinstance : mg "isinstance" = none
  g_str : mg "str" = none
  g_list : mg "list" = none
  g_super : mg "super" = none
  g_ValueError : mg "ValueError" = none
  g__law_pool : mg "_law_pool" = some (.ref (He.ga K "_law_pool"))
  g__law_draw : mg "_law_draw" = some (.ref (He.ga K "_law_draw"))
  g__law_sides : mg "_law_sides" = some (.ref (He.ga K "_law_sides"))
  g__law_drawn : mg "_law_drawn" = some (.ref (He.ga K "_law_drawn"))
  g_is_name : mg "is_name" = some (.ref (He.ga K "is_name"))
  g_check_name : mg "check_name" = some (.ref (He.ga K "check_name"))
  g_in_range : mg "in_range" = some (.ref (He.ga K "in_range"))
  g_check_sides : mg "check_sides" = some (.ref (He.ga K "check_sides"))
  g_Kind : mg "Kind" = some (.ref (He.ga K "Kind"))
  g_Rest : mg "Rest" = some (.ref (He.ga K "Rest"))
  g_Day : mg "Day" = some (.ref (He.ga K "Day"))
  g_check_many : mg "check_many" = some (.ref (He.ga K "check_many"))
  g_check_names : mg "check_names" = some (.ref (He.ga K "check_names"))
  g_check_days : mg "check_days" = some (.ref (He.ga K "check_days"))
  g_count_lots : mg "count_lots" = some (.ref (He.ga K "count_lots"))
  g_Sheet : mg "Sheet" = some (.ref (He.ga K "Sheet"))
  g_ascending_cells : mg "ascending_cells" = some (.ref (He.ga K "ascending_cells"))
  g_Board : mg "Board" = some (.ref (He.ga K "Board"))
  g__law_built : mg "_law_built" = some (.ref (He.ga K "_law_built"))
  g__law_part : mg "_law_part" = some (.ref (He.ga K "_law_part"))
  g__law_same : mg "_law_same" = some (.ref (He.ga K "_law_same"))
  g_is_clean : mg "is_clean" = some (.ref (He.ga K "is_clean"))
  g__law_fitting : mg "_law_fitting" = some (.ref (He.ga K "_law_fitting"))
  g_CutError : mg "CutError" = some (.ref (He.ga K "CutError"))
  g_NoThing : mg "NoThing" = some (.ref (He.ga K "NoThing"))
  g_thing_at : mg "thing_at" = some (.ref (He.ga K "thing_at"))
  g_kind_at : mg "kind_at" = some (.ref (He.ga K "kind_at"))
  g_fits : mg "fits" = some (.ref (He.ga K "fits"))
  g_OutOfRange : mg "OutOfRange" = some (.ref (He.ga K "OutOfRange"))
  g_NoName : mg "NoName" = some (.ref (He.ga K "NoName"))
  g_NoCut : mg "NoCut" = some (.ref (He.ga K "NoCut"))
  g_NoKeep : mg "NoKeep" = some (.ref (He.ga K "NoKeep"))
  g__law_fields : mg "_law_fields" = some (.ref (He.ga K "_law_fields"))
  g__law_fit : mg "_law_fit" = some (.ref (He.ga K "_law_fit"))
  g__law_keeping : mg "_law_keeping" = some (.ref (He.ga K "_law_keeping"))
  g_rest_at : mg "rest_at" = some (.ref (He.ga K "rest_at"))
  g_holds_rest : mg "holds_rest" = some (.ref (He.ga K "holds_rest"))
  g_day_at : mg "day_at" = some (.ref (He.ga K "day_at"))
  g_part_from : mg "part_from" = some (.ref (He.ga K "part_from"))
  g_first_left : mg "first_left" = some (.ref (He.ga K "first_left"))
  g_rest_part : mg "rest_part" = some (.ref (He.ga K "rest_part"))
  g_kept_part : mg "kept_part" = some (.ref (He.ga K "kept_part"))
  g__law_kept : mg "_law_kept" = some (.ref (He.ga K "_law_kept"))
  g_law : mg "law" = some (.ref (He.ga K "law"))
  k_MOST_CHARACTERS : ∃ t, mg "MOST_CHARACTERS" = some (.int 8 t)
  k_LETTERS : ∃ t, mg "LETTERS" = some (.str "abcdefghijklmnopqrstuvwxyz" t)
  k_LETTERS_AND_DIGITS : ∃ t, mg "LETTERS_AND_DIGITS" = some (.str "abcdefghijklmnopqrstuvwxyz0123456789" t)
  k_MOST_SIDE : ∃ t, mg "MOST_SIDE" = some (.int 60 t)
  k_MOST_COST : ∃ t, mg "MOST_COST" = some (.int 1000000000 t)
  k_MOST_AREA : ∃ t, mg "MOST_AREA" = some (.int 120 t)
  k_MOST_HIGH : ∃ t, mg "MOST_HIGH" = some (.int 6 t)
  k_MOST_SUPPLY : ∃ t, mg "MOST_SUPPLY" = some (.int 6 t)
  k_MOST_KINDS : ∃ t, mg "MOST_KINDS" = some (.int 6 t)
  k_MOST_BOARD_SORTS : ∃ t, mg "MOST_BOARD_SORTS" = some (.int 4 t)
  k_MOST_DAYS : ∃ t, mg "MOST_DAYS" = some (.int 3 t)
  k_MOST_RESTS : ∃ t, mg "MOST_RESTS" = some (.int 3 t)
  k_MOST_KERF : ∃ t, mg "MOST_KERF" = some (.int 20 t)
  k_MOST_STAGES : ∃ t, mg "MOST_STAGES" = some (.int 8 t)
  k_MOST_FAULTS : ∃ t, mg "MOST_FAULTS" = some (.int 4 t)
  k_FIRST_CELL : ∃ t, mg "FIRST_CELL" = some (.int 5 t)
  d__law_pool : ∃ fd, FunD K "_law_pool" "_law_pool" (defArgs s__law_pool) (defBody s__law_pool) (defScope s__law_pool) [] [] (He.ga K "_law_pool") fd
  d__law_draw : ∃ fd, FunD K "_law_draw" "_law_draw" (defArgs s__law_draw) (defBody s__law_draw) (defScope s__law_draw) [] [] (He.ga K "_law_draw") fd
  d__law_sides : ∃ fd, FunD K "_law_sides" "_law_sides" (defArgs s__law_sides) (defBody s__law_sides) (defScope s__law_sides) [] [] (He.ga K "_law_sides") fd
  d__law_drawn : ∃ fd, FunD K "_law_drawn" "_law_drawn" (defArgs s__law_drawn) (defBody s__law_drawn) (defScope s__law_drawn) [] [] (He.ga K "_law_drawn") fd
  d_is_name : ∃ fd, FunD K "is_name" "is_name" (defArgs s_is_name) (defBody s_is_name) (defScope s_is_name) [] [] (He.ga K "is_name") fd
  d_check_name : ∃ fd, FunD K "check_name" "check_name" (defArgs s_check_name) (defBody s_check_name) (defScope s_check_name) [] [] (He.ga K "check_name") fd
  d_in_range : ∃ fd, FunD K "in_range" "in_range" (defArgs s_in_range) (defBody s_in_range) (defScope s_in_range) [] [] (He.ga K "in_range") fd
  d_check_sides : ∃ fd, FunD K "check_sides" "check_sides" (defArgs s_check_sides) (defBody s_check_sides) (defScope s_check_sides) [] [] (He.ga K "check_sides") fd
  d_init_Kind : ∃ fd, FunD K "__init__" "Kind.__init__" (defArgs s_init_Kind) (defBody s_init_Kind) (defScope s_init_Kind) [.int 0] [("turns", .bl false)] (He.ma K (He.ga K "Kind") "__init__") fd
  d_init_Rest : ∃ fd, FunD K "__init__" "Rest.__init__" (defArgs s_init_Rest) (defBody s_init_Rest) (defScope s_init_Rest) [.int 0] [] (He.ma K (He.ga K "Rest") "__init__") fd
  d_init_Day : ∃ fd, FunD K "__init__" "Day.__init__" (defArgs s_init_Day) (defBody s_init_Day) (defScope s_init_Day) [] [] (He.ma K (He.ga K "Day") "__init__") fd
  d_check_many : ∃ fd, FunD K "check_many" "check_many" (defArgs s_check_many) (defBody s_check_many) (defScope s_check_many) [] [] (He.ga K "check_many") fd
  d_check_names : ∃ fd, FunD K "check_names" "check_names" (defArgs s_check_names) (defBody s_check_names) (defScope s_check_names) [] [] (He.ga K "check_names") fd
  d_check_days : ∃ fd, FunD K "check_days" "check_days" (defArgs s_check_days) (defBody s_check_days) (defScope s_check_days) [] [] (He.ga K "check_days") fd
  d_count_lots : ∃ fd, FunD K "count_lots" "count_lots" (defArgs s_count_lots) (defBody s_count_lots) (defScope s_count_lots) [] [] (He.ga K "count_lots") fd
  d_init_Sheet : ∃ fd, FunD K "__init__" "Sheet.__init__" (defArgs s_init_Sheet) (defBody s_init_Sheet) (defScope s_init_Sheet) [] [("rests", .ref (kwdAt ("Sheet", some "__init__") "rests" K)), ("kerf", .int 0), ("stages", .non), ("cut_cost", .int 0)] (He.ma K (He.ga K "Sheet") "__init__") fd
  e_init_Sheet_rests : emptyB K (kwdAt ("Sheet", some "__init__") "rests" K) = true
  d_ascending_cells : ∃ fd, FunD K "ascending_cells" "ascending_cells" (defArgs s_ascending_cells) (defBody s_ascending_cells) (defScope s_ascending_cells) [] [] (He.ga K "ascending_cells") fd
  d_init_Board : ∃ fd, FunD K "__init__" "Board.__init__" (defArgs s_init_Board) (defBody s_init_Board) (defScope s_init_Board) [] [("trim", .int 0), ("faults", .ref (kwdAt ("Board", some "__init__") "faults" K))] (He.ma K (He.ga K "Board") "__init__") fd
  e_init_Board_faults : emptyB K (kwdAt ("Board", some "__init__") "faults" K) = true
  d__law_built : ∃ fd, FunD K "_law_built" "_law_built" (defArgs s__law_built) (defBody s__law_built) (defScope s__law_built) [] [] (He.ga K "_law_built") fd
  d__law_part : ∃ fd, FunD K "_law_part" "_law_part" (defArgs s__law_part) (defBody s__law_part) (defScope s__law_part) [] [] (He.ga K "_law_part") fd
  d__law_same : ∃ fd, FunD K "_law_same" "_law_same" (defArgs s__law_same) (defBody s__law_same) (defScope s__law_same) [] [] (He.ga K "_law_same") fd
  d_is_clean : ∃ fd, FunD K "is_clean" "is_clean" (defArgs s_is_clean) (defBody s_is_clean) (defScope s_is_clean) [] [] (He.ga K "is_clean") fd
  d__law_fitting : ∃ fd, FunD K "_law_fitting" "_law_fitting" (defArgs s__law_fitting) (defBody s__law_fitting) (defScope s__law_fitting) [] [] (He.ga K "_law_fitting") fd
  x_NoThing : ∃ fd, ExI K PySem.Challenge.pw_cutboards_k08_pieces_fit.main.file (gaC K "NoThing") (He.ma K (He.ga K "NoThing") "__init__") "__init__" "NoThing.__init__" (defArgs s_x_NoThing) (defBody s_x_NoThing) (defScope s_x_NoThing) fd
  d_thing_at : ∃ fd, FunD K "thing_at" "thing_at" (defArgs s_thing_at) (defBody s_thing_at) (defScope s_thing_at) [] [] (He.ga K "thing_at") fd
  d_kind_at : ∃ fd, FunD K "kind_at" "kind_at" (defArgs s_kind_at) (defBody s_kind_at) (defScope s_kind_at) [] [] (He.ga K "kind_at") fd
  d_fits : ∃ fd, FunD K "fits" "fits" (defArgs s_fits) (defBody s_fits) (defScope s_fits) [] [] (He.ga K "fits") fd
  d_hot__law_fields : ∃ fd, FunD K "_law_fields" "_law_fields" (defArgs s_hot__law_fields) (defBody s_hot__law_fields) (defScope s_hot__law_fields) [] [] (He.ga K "_law_fields") fd
  d__law_fit : ∃ fd, FunD K "_law_fit" "_law_fit" (defArgs s__law_fit) (defBody s__law_fit) (defScope s__law_fit) [] [] (He.ga K "_law_fit") fd
  d__law_keeping : ∃ fd, FunD K "_law_keeping" "_law_keeping" (defArgs s__law_keeping) (defBody s__law_keeping) (defScope s__law_keeping) [] [] (He.ga K "_law_keeping") fd
  d_rest_at : ∃ fd, FunD K "rest_at" "rest_at" (defArgs s_rest_at) (defBody s_rest_at) (defScope s_rest_at) [] [] (He.ga K "rest_at") fd
  d_holds_rest : ∃ fd, FunD K "holds_rest" "holds_rest" (defArgs s_holds_rest) (defBody s_holds_rest) (defScope s_holds_rest) [] [] (He.ga K "holds_rest") fd
  x_NoKeep : ∃ fd, ExI K PySem.Challenge.pw_cutboards_k08_pieces_fit.main.file (gaC K "NoKeep") (He.ma K (He.ga K "NoKeep") "__init__") "__init__" "NoKeep.__init__" (defArgs s_x_NoKeep) (defBody s_x_NoKeep) (defScope s_x_NoKeep) fd
  d_day_at : ∃ fd, FunD K "day_at" "day_at" (defArgs s_day_at) (defBody s_day_at) (defScope s_day_at) [] [] (He.ga K "day_at") fd
  d_part_from : ∃ fd, FunD K "part_from" "part_from" (defArgs s_part_from) (defBody s_part_from) (defScope s_part_from) [] [] (He.ga K "part_from") fd
  d_first_left : ∃ fd, FunD K "first_left" "first_left" (defArgs s_first_left) (defBody s_first_left) (defScope s_first_left) [] [] (He.ga K "first_left") fd
  d_rest_part : ∃ fd, FunD K "rest_part" "rest_part" (defArgs s_rest_part) (defBody s_rest_part) (defScope s_rest_part) [] [] (He.ga K "rest_part") fd
  d_kept_part : ∃ fd, FunD K "kept_part" "kept_part" (defArgs s_kept_part) (defBody s_kept_part) (defScope s_kept_part) [] [] (He.ga K "kept_part") fd
  d__law_kept : ∃ fd, FunD K "_law_kept" "_law_kept" (defArgs s__law_kept) (defBody s__law_kept) (defScope s__law_kept) [] [] (He.ga K "_law_kept") fd
  d_law : ∃ fd, FunD K "law" "law" (defArgs s_law) (defBody s_law) (defScope s_law) [] [] (He.ga K "law") fd
  sb_CutError : subB K "CutError" sub_CutError = true
  m_Kind : Mk K (gaC K "Kind") (He.ma K (He.ga K "Kind") "__init__")
  m_Rest : Mk K (gaC K "Rest") (He.ma K (He.ga K "Rest") "__init__")
  m_Day : Mk K (gaC K "Day") (He.ma K (He.ga K "Day") "__init__")
  m_Sheet : Mk K (gaC K "Sheet") (He.ma K (He.ga K "Sheet") "__init__")
  m_Board : Mk K (gaC K "Board") (He.ma K (He.ga K "Board") "__init__")
section
variable {P : Program} {w : World} {K : PySem.W.Frag} {mg : Str → Option Value} {base : Heap} [SupP P PySem.Challenge.pw_cutboards_k08_pieces_fit.main.file]
theorem fn__law_pool (T : Txt K mg) {f : Addr} {fd : FuncData} (F : FunD K "_law_pool" "_law_pool" (defArgs s__law_pool) (defBody s__law_pool) (defScope s__law_pool) [] [] f fd) : FnOk P w K mg base (L2.CX P w) 1 f fd ps__law_pool (spI K F__law_pool ps__law_pool.length) := by
  exact fn_ok finL_ok (N := N__law_pool) (ps := ps__law_pool) (k := 0) F sc__law_pool (fun cdv A outer s H E hr tk hp => bi_cons (si_setLc 1 (own := [("cell", 2)]) rfl (sc__law_pool).nd (ii_any (ei_sl (ei_var 0) (oi_none) (oi_some (ei_int)))) (blkOk_by (N := N__law_pool) (sc := defScope s__law_pool) (by decide +kernel)) (fun _ _ _ _ _ => gi_name 2 (sc__law_pool).nd) (fun _ _ _ _ _ => tsi_nil) (fun _ _ _ _ _ => ei_abs T.g_abs (ai_cons (ei_intc T.g_int (ai_cons (ei_var 2) (ai_nil))) (ai_nil))) (sw_true rfl rfl rfl (by decide +kernel))) (bi_cons (si_for (vs := [2]) hp rfl (ii_any (ei_var 1)) (gi_name 2 (sc__law_pool).nd) (bi_one (si_if (ti_cmp op_ge os_ge (ei_var 2) (ei_op op_pow os_pow (ei_int) (ei_int))) (bi_one (si_ret (ei_lstL (ai_cons (ei_var 2) (ai_nil))))) (bi_nil)))) (bi_cons (si_set 3 (sc__law_pool).nd (ei_op op_addD os_add (ei_int) (ei_len T.g_len (ai_cons (ei_var 1) (ai_nil))))) (bi_cons (si_for (vs := [2]) hp rfl (ii_any (ei_var 1)) (gi_name 2 (sc__law_pool).nd) (bi_one (si_set 3 (sc__law_pool).nd (ei_op op_addD os_add (ei_op op_addD os_add (ei_op op_mulD os_mul (ei_var 3) (ei_int)) (ei_var 2)) (ei_int))))) (bi_cons (si_for (vs := [4]) hp rfl (ii_rng1 rfl T.g_range (ai_cons (ei_int) (ai_nil))) (gi_name 4 (sc__law_pool).nd) (bi_one (si_set 3 (sc__law_pool).nd (ei_op op_addD os_add (ei_op op_mulD os_mul (ei_var 3) (ei_op op_addD os_add (ei_op op_mod os_mod (ei_intc T.g_int (ai_cons (ei_var 3) (ai_nil))) (ei_int)) (ei_int))) (ei_var 4))))) (bi_one (si_ret (ei_lstL (ai_cons (ei_var 3) (ai_nil))))))))))
theorem ok__law_pool (T : Txt K mg) : Has P w K mg base 1 "_law_pool" (He.ga K "_law_pool") ps__law_pool F__law_pool := by
  obtain ⟨fd, F⟩ := T.d__law_pool
  exact ⟨⟨fd, fn__law_pool T F, F.bindsN (fun _ _ _ _ _ _ us hl => match us, hl with | [_], _ => rfl)⟩, T.g__law_pool, F.kp⟩
theorem fn__law_draw (T : Txt K mg) {f : Addr} {fd : FuncData} (F : FunD K "_law_draw" "_law_draw" (defArgs s__law_draw) (defBody s__law_draw) (defScope s__law_draw) [] [] f fd) : FnOk P w K mg base (L2.CX P w) 1 f fd ps__law_draw (spI K F__law_draw ps__law_draw.length) := by
  exact fn_ok finR_ok (N := N__law_draw) (ps := ps__law_draw) (k := 0) F sc__law_draw (fun cdv A outer s H E hr tk hp => bi_cons (si_set 2 (sc__law_draw).nd (ei_op op_mod os_mod (ei_intc T.g_int (ai_cons (ei_ix (ei_var 0) (ei_int)) (ai_nil))) (ei_var 1))) (bi_cons (si_sets 0 (ei_var 0) (ei_int) (ei_op op_fdivW os_div (ei_intc T.g_int (ai_cons (ei_ix (ei_var 0) (ei_int)) (ai_nil))) (ei_var 1))) (bi_one (si_ret (ei_var 2)))))
theorem ok__law_draw (T : Txt K mg) : Has P w K mg base 1 "_law_draw" (He.ga K "_law_draw") ps__law_draw F__law_draw := by
  obtain ⟨fd, F⟩ := T.d__law_draw
  exact ⟨⟨fd, fn__law_draw T F, F.bindsN (fun _ _ _ _ _ _ us hl => match us, hl with | [_, _], _ => rfl)⟩, T.g__law_draw, F.kp⟩
theorem fn__law_sides (T : Txt K mg) {f : Addr} {fd : FuncData} (F : FunD K "_law_sides" "_law_sides" (defArgs s__law_sides) (defBody s__law_sides) (defScope s__law_sides) [] [] f fd) : FnOk P w K mg base (L2.CX P w) 2 f fd ps__law_sides (spI K F__law_sides ps__law_sides.length) := by
  have h__law_draw := ok__law_draw (P := P) (w := w) (base := base) T
  exact fn_ok finR_ok (N := N__law_sides) (ps := ps__law_sides) (k := 1) F sc__law_sides (fun cdv A outer s H E hr tk hp => bi_cons (si_set 1 (sc__law_sides).nd (ei_ix (ei_lst (ai_cons (ei_op op_addD os_add (ei_int) (ei_f h__law_draw hr tk (by decide) (ai_cons (ei_var 0) (ai_cons (ei_int) (ai_nil))) (axn_cons (axn_cons (axn_nil))))) (ai_cons (ei_int) (ai_cons (ei_int) (ai_cons (ei_int) (ai_nil)))))) (ei_f h__law_draw hr tk (by decide) (ai_cons (ei_var 0) (ai_cons (ei_int) (ai_nil))) (axn_cons (axn_cons (axn_nil)))))) (bi_one (si_ret (ei_lst (ai_cons (ei_var 1) (ai_cons (ei_op op_addD os_add (ei_int) (ei_f h__law_draw hr tk (by decide) (ai_cons (ei_var 0) (ai_cons (ei_min3 rfl T.g_min (ai_cons (ei_int) (ai_cons (ei_op op_fdivW os_div (ei_int) (ei_var 1)) (ai_cons (ei_int) (ai_nil))))) (ai_nil))) (axn_cons (axn_cons (axn_nil))))) (ai_nil)))))))
theorem ok__law_sides (T : Txt K mg) : Has P w K mg base 2 "_law_sides" (He.ga K "_law_sides") ps__law_sides F__law_sides := by
  obtain ⟨fd, F⟩ := T.d__law_sides
  exact ⟨⟨fd, fn__law_sides T F, F.bindsN (fun _ _ _ _ _ _ us hl => match us, hl with | [_], _ => rfl)⟩, T.g__law_sides, F.kp⟩
theorem fn__law_drawn (T : Txt K mg) {f : Addr} {fd : FuncData} (F : FunD K "_law_drawn" "_law_drawn" (defArgs s__law_drawn) (defBody s__law_drawn) (defScope s__law_drawn) [] [] f fd) : FnOk P w K mg base (L2.CX P w) 3 f fd ps__law_drawn (spI K F__law_drawn ps__law_drawn.length) := by
  have h__law_draw := ok__law_draw (P := P) (w := w) (base := base) T
  have h__law_sides := ok__law_sides (P := P) (w := w) (base := base) T
  exact fn_ok finR_ok (N := N__law_drawn) (ps := ps__law_drawn) (k := 2) F sc__law_drawn (fun cdv A outer s H E hr tk hp => bi_cons (si_set 1 (sc__law_drawn).nd (ei_lst (ai_cons (ei_op op_addD os_add (ei_int) (ei_f h__law_draw hr tk (by decide) (ai_cons (ei_var 0) (ai_cons (ei_int) (ai_nil))) (axn_cons (axn_cons (axn_nil))))) (ai_cons (ei_f h__law_draw hr tk (by decide) (ai_cons (ei_var 0) (ai_cons (ei_int) (ai_nil))) (axn_cons (axn_cons (axn_nil)))) (ai_cons (ei_op op_addD os_add (ei_int) (ei_f h__law_draw hr tk (by decide) (ai_cons (ei_var 0) (ai_cons (ei_int) (ai_nil))) (axn_cons (axn_cons (axn_nil))))) (ai_nil)))))) (bi_cons (si_if (ti_cmp (op_eq2 hr.units) os_eq (ei_f h__law_draw hr tk (by decide) (ai_cons (ei_var 0) (ai_cons (ei_int) (ai_nil))) (axn_cons (axn_cons (axn_nil)))) (ei_int)) (bi_one (si_set 1 (sc__law_drawn).nd (ei_lst (ai_cons (ei_int) (ai_cons (ei_int) (ai_cons (ei_int) (ai_nil))))))) (bi_nil)) (bi_cons (si_set 2 (sc__law_drawn).nd (ei_ix (ei_lst (ai_cons (ei_non) (ai_cons (ei_non) (ai_cons (ei_int) (ai_cons (ei_int) (ai_nil)))))) (ei_f h__law_draw hr tk (by decide) (ai_cons (ei_var 0) (ai_cons (ei_int) (ai_nil))) (axn_cons (axn_cons (axn_nil)))))) (bi_cons (si_set 3 (sc__law_drawn).nd (ei_lstL (ai_nil))) (bi_cons (si_for (vs := [4]) hp rfl (ii_rng1 rfl T.g_range (ai_cons (ei_ix (ei_var 1) (ei_int)) (ai_nil))) (gi_name 4 (sc__law_drawn).nd) (bi_one (si_app 3 (ei_var 3) (ei_op op_addD os_add (ei_op op_addD os_add (ei_lst (ai_cons (ei_ix (ei_str) (ei_var 4)) (ai_nil))) (ei_f h__law_sides hr tk (by decide) (ai_cons (ei_var 0) (ai_nil)) (axn_cons (axn_nil)))) (ei_lst (ai_cons (ei_cmp (op_eq2 hr.units) os_eq (ei_f h__law_draw hr tk (by decide) (ai_cons (ei_var 0) (ai_cons (ei_int) (ai_nil))) (axn_cons (axn_cons (axn_nil)))) (ei_int)) (ai_nil))))))) (bi_frz 3 (bi_cons (si_setLc 5 (own := [("k", 4)]) rfl (sc__law_drawn).nd (ii_rng1 rfl T.g_range (ai_cons (ei_ix (ei_var 1) (ei_int)) (ai_nil))) (blkOk_by (N := N__law_drawn) (sc := defScope s__law_drawn) (by decide +kernel)) (fun _ _ _ _ _ => gi_name 4 (sc__law_drawn).nd) (fun _ _ _ _ _ => tsi_nil) (fun _ _ _ _ _ => ei_op op_addD os_add (ei_lst (ai_cons (ei_ix (ei_str) (ei_var 4)) (ai_nil))) (ei_f h__law_sides hr takes_W0 (by decide) (ai_cons (ei_var 0) (ai_nil)) (axn_cons (axn_nil)))) (sw_true rfl rfl rfl (by decide +kernel))) (bi_one (si_ret (ei_lst (ai_cons (ei_var 3) (ai_cons (ei_var 5) (ai_cons (ei_ix (ei_var 1) (ei_int)) (ai_cons (ei_var 2) (ai_nil)))))))))))))))
theorem ok__law_drawn (T : Txt K mg) : Has P w K mg base 3 "_law_drawn" (He.ga K "_law_drawn") ps__law_drawn F__law_drawn := by
  obtain ⟨fd, F⟩ := T.d__law_drawn
  exact ⟨⟨fd, fn__law_drawn T F, F.bindsN (fun _ _ _ _ _ _ us hl => match us, hl with | [_], _ => rfl)⟩, T.g__law_drawn, F.kp⟩
theorem fn_is_name (T : Txt K mg) {f : Addr} {fd : FuncData} (F : FunD K "is_name" "is_name" (defArgs s_is_name) (defBody s_is_name) (defScope s_is_name) [] [] f fd) : FnOk P w K mg base (L2.CX P w) 1 f fd ps_is_name (spI K F_is_name ps_is_name.length) := by
  exact fn_ok finR_ok (N := N_is_name) (ps := ps_is_name) (k := 0) F sc_is_name (fun cdv A outer s H E hr tk hp => bi_cons (si_if (ti_not (ti_chain op_le os_le op_le os_le (ei_int) (ei_len T.g_len (ai_cons (ei_var 0) (ai_nil))) (ei_ki T.k_MOST_CHARACTERS))) (bi_one (si_ret (ei_bl))) (bi_nil)) (bi_cons (si_if (ti_cmp (op_notIn2 hr.units) os_notIn (ei_ix (ei_var 0) (ei_int)) (ei_ks T.k_LETTERS)) (bi_one (si_ret (ei_bl))) (bi_nil)) (bi_cons (si_for (vs := [1]) hp rfl (ii_any (ei_var 0)) (gi_name 1 (sc_is_name).nd) (bi_one (si_if (ti_cmp (op_notIn2 hr.units) os_notIn (ei_var 1) (ei_ks T.k_LETTERS_AND_DIGITS)) (bi_one (si_ret (ei_bl))) (bi_nil)))) (bi_one (si_ret (ei_bl))))))
theorem ok_is_name (T : Txt K mg) : Has P w K mg base 1 "is_name" (He.ga K "is_name") ps_is_name F_is_name := by
  obtain ⟨fd, F⟩ := T.d_is_name
  exact ⟨⟨fd, fn_is_name T F, F.bindsN (fun _ _ _ _ _ _ us hl => match us, hl with | [_], _ => rfl)⟩, T.g_is_name, F.kp⟩
theorem fn_check_name (T : Txt K mg) {f : Addr} {fd : FuncData} (F : FunD K "check_name" "check_name" (defArgs s_check_name) (defBody s_check_name) (defScope s_check_name) [] [] f fd) : FnOk P w K mg base (L2.CX P w) 2 f fd ps_check_name (spI K F_check_name ps_check_name.length) := by
  have h_is_name := ok_is_name (P := P) (w := w) (base := base) T
  exact fn_ok finR_ok (N := N_check_name) (ps := ps_check_name) (k := 1) F sc_check_name (fun cdv A outer s H E hr tk hp => bi_one (si_if (ti_not (ti_val (ei_f h_is_name hr tk (by decide) (ai_cons (ei_var 0) (ai_nil)) (axn_cons (axn_nil))))) (bi_one (si_bad)) (bi_nil)))
theorem ok_check_name (T : Txt K mg) : Has P w K mg base 2 "check_name" (He.ga K "check_name") ps_check_name F_check_name := by
  obtain ⟨fd, F⟩ := T.d_check_name
  exact ⟨⟨fd, fn_check_name T F, F.bindsN (fun _ _ _ _ _ _ us hl => match us, hl with | [_], _ => rfl)⟩, T.g_check_name, F.kp⟩
theorem fn_in_range (T : Txt K mg) {f : Addr} {fd : FuncData} (F : FunD K "in_range" "in_range" (defArgs s_in_range) (defBody s_in_range) (defScope s_in_range) [] [] f fd) : FnOk P w K mg base (L2.CX P w) 1 f fd ps_in_range (spI K F_in_range ps_in_range.length) := by
  exact fn_ok finR_ok (N := N_in_range) (ps := ps_in_range) (k := 0) F sc_in_range (fun cdv A outer s H E hr tk hp => bi_one (si_if (ti_not (ti_chain op_le os_le op_le os_le (ei_var 2) (ei_var 1) (ei_var 3))) (bi_one (si_bad)) (bi_nil)))
theorem ok_in_range (T : Txt K mg) : Has P w K mg base 1 "in_range" (He.ga K "in_range") ps_in_range F_in_range := by
  obtain ⟨fd, F⟩ := T.d_in_range
  exact ⟨⟨fd, fn_in_range T F, F.bindsN (fun _ _ _ _ _ _ us hl => match us, hl with | [_, _, _, _], _ => rfl)⟩, T.g_in_range, F.kp⟩
theorem fn_check_sides (T : Txt K mg) {f : Addr} {fd : FuncData} (F : FunD K "check_sides" "check_sides" (defArgs s_check_sides) (defBody s_check_sides) (defScope s_check_sides) [] [] f fd) : FnOk P w K mg base (L2.CX P w) 2 f fd ps_check_sides (spI K F_check_sides ps_check_sides.length) := by
  have h_in_range := ok_in_range (P := P) (w := w) (base := base) T
  exact fn_ok finR_ok (N := N_check_sides) (ps := ps_check_sides) (k := 1) F sc_check_sides (fun cdv A outer s H E hr tk hp => bi_cons (si_drop (ei_f h_in_range hr tk (by decide) (ai_cons (ei_str) (ai_cons (ei_var 0) (ai_cons (ei_int) (ai_cons (ei_ki T.k_MOST_SIDE) (ai_nil))))) (axn_cons (axn_cons (axn_cons (axn_cons (axn_nil))))))) (bi_one (si_drop (ei_f h_in_range hr tk (by decide) (ai_cons (ei_str) (ai_cons (ei_var 1) (ai_cons (ei_int) (ai_cons (ei_ki T.k_MOST_SIDE) (ai_nil))))) (axn_cons (axn_cons (axn_cons (axn_cons (axn_nil)))))))))
theorem ok_check_sides (T : Txt K mg) : Has P w K mg base 2 "check_sides" (He.ga K "check_sides") ps_check_sides F_check_sides := by
  obtain ⟨fd, F⟩ := T.d_check_sides
  exact ⟨⟨fd, fn_check_sides T F, F.bindsN (fun _ _ _ _ _ _ us hl => match us, hl with | [_, _], _ => rfl)⟩, T.g_check_sides, F.kp⟩
theorem fn_init_Kind (T : Txt K mg) {f : Addr} {fd : FuncData} (F : FunD K "__init__" "Kind.__init__" (defArgs s_init_Kind) (defBody s_init_Kind) (defScope s_init_Kind) [.int 0] [("turns", .bl false)] f fd) : FnOk P w K mg base (L2.CX P w) 3 f fd ps_init_Kind (spI K F_init_Kind ps_init_Kind.length) := by
  have h_check_name := ok_check_name (P := P) (w := w) (base := base) T
  have h_check_sides := ok_check_sides (P := P) (w := w) (base := base) T
  have h_in_range := ok_in_range (P := P) (w := w) (base := base) T
  exact fn_ok finR_ok (N := N_init_Kind) (ps := ps_init_Kind) (k := 2) F sc_init_Kind (fun cdv A outer s H E hr tk hp => bi_cons (si_drop (ei_f h_check_name hr tk (by decide) (ai_cons (ei_var 1) (ai_nil)) (axn_cons (axn_nil)))) (bi_cons (si_drop (ei_f h_check_sides hr tk (by decide) (ai_cons (ei_var 2) (ai_cons (ei_var 3) (ai_nil))) (axn_cons (axn_cons (axn_nil))))) (bi_cons (si_drop (ei_f h_in_range hr tk (by decide) (ai_cons (ei_str) (ai_cons (ei_var 4) (ai_cons (ei_int) (ai_cons (ei_ki T.k_MOST_COST) (ai_nil))))) (axn_cons (axn_cons (axn_cons (axn_cons (axn_nil))))))) (bi_cons (si_fld 0 "name" T.pok (ei_var 0) (ei_var 1)) (bi_cons (si_fld 0 "length" T.pok (ei_var 0) (ei_var 2)) (bi_cons (si_fld 0 "width" T.pok (ei_var 0) (ei_var 3)) (bi_cons (si_fld 0 "price" T.pok (ei_var 0) (ei_var 4)) (bi_one (si_fld 0 "turns" T.pok (ei_var 0) (ei_var 5))))))))))
theorem ok_init_Kind_k0 (T : Txt K mg) : HasM P w K mg base 3 "Kind" ps_init_Kind 3 ["turns"] (fun xs ys => perm [0, 1, 2, 3, 4, 5] (xs ++ ([.int 0] ++ ([] ++ ys)))) F_init_Kind := by
  obtain ⟨fd, F⟩ := T.d_init_Kind
  exact ⟨⟨_, fd, T.m_Kind, fn_init_Kind T F, kb4 F 4 ["turns"] [] [0, 1, 2, 3, 4, 5] [.int 0] [] (List.cons_ne_nil _ _) (List.cons_ne_nil _ _) (fun q hq => nomatch hq) (.cons (.int _) (.nil)) (.nil) (fun _ _ _ _ _ _ _ us its mv ws h1 h2 h3 h4 => match us, its, mv, ws, h1, h2, h3, h4 with | [_, _, _, _], [_], [], [_], _, _, _, _ => ⟨_, rfl, rfl⟩)⟩, T.g_Kind⟩
theorem fn_init_Rest (T : Txt K mg) {f : Addr} {fd : FuncData} (F : FunD K "__init__" "Rest.__init__" (defArgs s_init_Rest) (defBody s_init_Rest) (defScope s_init_Rest) [.int 0] [] f fd) : FnOk P w K mg base (L2.CX P w) 3 f fd ps_init_Rest (spI K F_init_Rest ps_init_Rest.length) := by
  have h_check_name := ok_check_name (P := P) (w := w) (base := base) T
  have h_check_sides := ok_check_sides (P := P) (w := w) (base := base) T
  have h_in_range := ok_in_range (P := P) (w := w) (base := base) T
  exact fn_ok finR_ok (N := N_init_Rest) (ps := ps_init_Rest) (k := 2) F sc_init_Rest (fun cdv A outer s H E hr tk hp => bi_cons (si_drop (ei_f h_check_name hr tk (by decide) (ai_cons (ei_var 1) (ai_nil)) (axn_cons (axn_nil)))) (bi_cons (si_drop (ei_f h_check_sides hr tk (by decide) (ai_cons (ei_var 2) (ai_cons (ei_var 3) (ai_nil))) (axn_cons (axn_cons (axn_nil))))) (bi_cons (si_drop (ei_f h_in_range hr tk (by decide) (ai_cons (ei_str) (ai_cons (ei_var 4) (ai_cons (ei_int) (ai_cons (ei_ki T.k_MOST_COST) (ai_nil))))) (axn_cons (axn_cons (axn_cons (axn_cons (axn_nil))))))) (bi_cons (si_drop (ei_f h_in_range hr tk (by decide) (ai_cons (ei_str) (ai_cons (ei_op op_mulD os_mul (ei_var 2) (ei_var 3)) (ai_cons (ei_int) (ai_cons (ei_ki T.k_MOST_AREA) (ai_nil))))) (axn_cons (axn_cons (axn_cons (axn_cons (axn_nil))))))) (bi_cons (si_fld 0 "name" T.pok (ei_var 0) (ei_var 1)) (bi_cons (si_fld 0 "length" T.pok (ei_var 0) (ei_var 2)) (bi_cons (si_fld 0 "width" T.pok (ei_var 0) (ei_var 3)) (bi_one (si_fld 0 "cost" T.pok (ei_var 0) (ei_var 4))))))))))
theorem ok_init_Rest_k0 (T : Txt K mg) : HasM P w K mg base 3 "Rest" ps_init_Rest 3 [] (fun xs ys => perm [0, 1, 2, 3, 4] (xs ++ ([.int 0] ++ ys))) F_init_Rest := by
  obtain ⟨fd, F⟩ := T.d_init_Rest
  exact ⟨⟨_, fd, T.m_Rest, fn_init_Rest T F, kb3D F 4 [] [0, 1, 2, 3, 4] [.int 0] (List.cons_ne_nil _ _) (.cons (.int _) (.nil)) (fun _ _ _ _ _ _ _ us its ws h1 h2 h3 => match us, its, ws, h1, h2, h3 with | [_, _, _, _], [_], [], _, _, _ => ⟨_, rfl, rfl⟩)⟩, T.g_Rest⟩
theorem fn_init_Day (T : Txt K mg) {f : Addr} {fd : FuncData} (F : FunD K "__init__" "Day.__init__" (defArgs s_init_Day) (defBody s_init_Day) (defScope s_init_Day) [] [] f fd) : FnOk P w K mg base (L2.CX P w) 2 f fd ps_init_Day (spI K F_init_Day ps_init_Day.length) := by
  have h_in_range := ok_in_range (P := P) (w := w) (base := base) T
  exact fn_ok finR_ok (N := N_init_Day) (ps := ps_init_Day) (k := 1) F sc_init_Day (fun cdv A outer s H E hr tk hp => bi_cons (si_for (vs := [3, 4]) hp rfl (ii_any (ei_var 1)) (gi_tup 2 rfl (gsi_cons (gi_name 3 (sc_init_Day).nd) (gsi_cons (gi_name 4 (sc_init_Day).nd) (gsi_nil))) (len_cons (len_cons (len_nil)))) (bi_cons (si_drop (ei_f h_in_range hr tk (by decide) (ai_cons (ei_str) (ai_cons (ei_var 4) (ai_cons (ei_int) (ai_cons (ei_ki T.k_MOST_HIGH) (ai_nil))))) (axn_cons (axn_cons (axn_cons (axn_cons (axn_nil))))))) (bi_one (si_drop (ei_f h_in_range hr tk (by decide) (ai_cons (ei_str) (ai_cons (ei_var 3) (ai_cons (ei_int) (ai_cons (ei_var 4) (ai_nil))))) (axn_cons (axn_cons (axn_cons (axn_cons (axn_nil)))))))))) (bi_cons (si_for (vs := [5]) hp rfl (ii_any (ei_var 2)) (gi_name 5 (sc_init_Day).nd) (bi_one (si_drop (ei_f h_in_range hr tk (by decide) (ai_cons (ei_str) (ai_cons (ei_var 5) (ai_cons (ei_int) (ai_cons (ei_ki T.k_MOST_SUPPLY) (ai_nil))))) (axn_cons (axn_cons (axn_cons (axn_cons (axn_nil))))))))) (bi_cons (si_fld 0 "orders" T.pok (ei_var 0) (ei_tupc T.g_tuple (ai_cons (ei_lc (own := [("low", 3), ("high", 4)]) rfl (sc_init_Day).nd (ii_any (ei_var 1)) (blkOk_by (N := N_init_Day) (sc := defScope s_init_Day) (by decide +kernel)) (fun _ _ _ _ _ => gi_tup 2 rfl (gsi_cons (gi_name 3 (sc_init_Day).nd) (gsi_cons (gi_name 4 (sc_init_Day).nd) (gsi_nil))) (len_cons (len_cons (len_nil)))) (fun _ _ _ _ _ => tsi_nil) (fun _ _ _ _ _ => ei_tup (ai_cons (ei_var 3) (ai_cons (ei_var 4) (ai_nil))))) (ai_nil)))) (bi_one (si_fld 0 "supplies" T.pok (ei_var 0) (ei_tupc T.g_tuple (ai_cons (ei_var 2) (ai_nil))))))))
theorem ok_init_Day_k0 (T : Txt K mg) : HasM P w K mg base 2 "Day" ps_init_Day 2 [] (fun xs ys => perm [0, 1, 2] (xs ++ ys)) F_init_Day := by
  obtain ⟨fd, F⟩ := T.d_init_Day
  exact ⟨⟨_, fd, T.m_Day, fn_init_Day T F, kb2 F 3 [] [0, 1, 2] (fun _ _ _ _ _ _ us ws h1 h2 => match us, ws, h1, h2 with | [_, _, _], [], _, _ => rfl)⟩, T.g_Day⟩
theorem fn_check_many (T : Txt K mg) {f : Addr} {fd : FuncData} (F : FunD K "check_many" "check_many" (defArgs s_check_many) (defBody s_check_many) (defScope s_check_many) [] [] f fd) : FnOk P w K mg base (L2.CX P w) 1 f fd ps_check_many (spI K F_check_many ps_check_many.length) := by
  exact fn_ok finR_ok (N := N_check_many) (ps := ps_check_many) (k := 0) F sc_check_many (fun cdv A outer s H E hr tk hp => bi_one (si_if (ti_not (ti_chain op_le os_le op_le os_le (ei_var 2) (ei_len T.g_len (ai_cons (ei_var 1) (ai_nil))) (ei_var 3))) (bi_one (si_bad)) (bi_nil)))
theorem ok_check_many (T : Txt K mg) : Has P w K mg base 1 "check_many" (He.ga K "check_many") ps_check_many F_check_many := by
  obtain ⟨fd, F⟩ := T.d_check_many
  exact ⟨⟨fd, fn_check_many T F, F.bindsN (fun _ _ _ _ _ _ us hl => match us, hl with | [_, _, _, _], _ => rfl)⟩, T.g_check_many, F.kp⟩
theorem fn_check_names (T : Txt K mg) {f : Addr} {fd : FuncData} (F : FunD K "check_names" "check_names" (defArgs s_check_names) (defBody s_check_names) (defScope s_check_names) [] [] f fd) : FnOk P w K mg base (L2.CX P w) 1 f fd ps_check_names (spI K F_check_names ps_check_names.length) := by
  exact fn_ok finR_ok (N := N_check_names) (ps := ps_check_names) (k := 0) F sc_check_names (fun cdv A outer s H E hr tk hp => bi_cons (si_setLc 1 (own := [("one", 4)]) rfl (sc_check_names).nd (ii_any (ei_var 0)) (blkOk_by (N := N_check_names) (sc := defScope s_check_names) (by decide +kernel)) (fun _ _ _ _ _ => gi_name 4 (sc_check_names).nd) (fun _ _ _ _ _ => tsi_nil) (fun _ _ _ _ _ => ei_fld T.pok (ei_var 4)) (sw_true rfl rfl rfl (by decide +kernel))) (bi_one (si_for (vs := [2, 3]) hp rfl (ii_enum rfl T.g_enumerate (ei_var 1)) (gi_tup 2 rfl (gsi_cons (gi_name 2 (sc_check_names).nd) (gsi_cons (gi_name 3 (sc_check_names).nd) (gsi_nil))) (len_cons (len_cons (len_nil)))) (bi_one (si_if (ti_cmp (op_in2 hr.units) os_in (ei_var 3) (ei_sl (ei_var 1) (oi_none) (oi_some (ei_var 2)))) (bi_one (si_bad)) (bi_nil))))))
theorem ok_check_names (T : Txt K mg) : Has P w K mg base 1 "check_names" (He.ga K "check_names") ps_check_names F_check_names := by
  obtain ⟨fd, F⟩ := T.d_check_names
  exact ⟨⟨fd, fn_check_names T F, F.bindsN (fun _ _ _ _ _ _ us hl => match us, hl with | [_], _ => rfl)⟩, T.g_check_names, F.kp⟩
theorem fn_check_days (T : Txt K mg) {f : Addr} {fd : FuncData} (F : FunD K "check_days" "check_days" (defArgs s_check_days) (defBody s_check_days) (defScope s_check_days) [] [] f fd) : FnOk P w K mg base (L2.CX P w) 1 f fd ps_check_days (spI K F_check_days ps_check_days.length) := by
  exact fn_ok finR_ok (N := N_check_days) (ps := ps_check_days) (k := 0) F sc_check_days (fun cdv A outer s H E hr tk hp => bi_one (si_for (vs := [3]) hp rfl (ii_any (ei_var 0)) (gi_name 3 (sc_check_days).nd) (bi_cons (si_if (ti_cmp (op_ne2 hr.units) os_ne (ei_len T.g_len (ai_cons (ei_fld T.pok (ei_var 3)) (ai_nil))) (ei_len T.g_len (ai_cons (ei_var 1) (ai_nil)))) (bi_one (si_bad)) (bi_nil)) (bi_one (si_if (ti_cmp (op_ne2 hr.units) os_ne (ei_len T.g_len (ai_cons (ei_fld T.pok (ei_var 3)) (ai_nil))) (ei_len T.g_len (ai_cons (ei_var 2) (ai_nil)))) (bi_one (si_bad)) (bi_nil))))))
theorem ok_check_days (T : Txt K mg) : Has P w K mg base 1 "check_days" (He.ga K "check_days") ps_check_days F_check_days := by
  obtain ⟨fd, F⟩ := T.d_check_days
  exact ⟨⟨fd, fn_check_days T F, F.bindsN (fun _ _ _ _ _ _ us hl => match us, hl with | [_, _, _], _ => rfl)⟩, T.g_check_days, F.kp⟩
theorem fn_count_lots (T : Txt K mg) {f : Addr} {fd : FuncData} (F : FunD K "count_lots" "count_lots" (defArgs s_count_lots) (defBody s_count_lots) (defScope s_count_lots) [] [] f fd) : FnOk P w K mg base (L2.CX P w) 1 f fd ps_count_lots (spI K F_count_lots ps_count_lots.length) := by
  exact fn_ok finR_ok (N := N_count_lots) (ps := ps_count_lots) (k := 0) F sc_count_lots (fun cdv A outer s H E hr tk hp => bi_cons (si_set 1 (sc_count_lots).nd (ei_int)) (bi_cons (si_for (vs := [2]) hp rfl (ii_any (ei_var 0)) (gi_name 2 (sc_count_lots).nd) (bi_one (si_for (vs := [3]) hp rfl (ii_any (ei_fld T.pok (ei_var 2))) (gi_name 3 (sc_count_lots).nd) (bi_one (si_set 1 (sc_count_lots).nd (ei_op op_mulD os_mul (ei_var 1) (ei_op op_addD os_add (ei_ix (ei_var 3) (ei_int)) (ei_int)))))))) (bi_one (si_ret (ei_var 1)))))
theorem ok_count_lots (T : Txt K mg) : Has P w K mg base 1 "count_lots" (He.ga K "count_lots") ps_count_lots F_count_lots := by
  obtain ⟨fd, F⟩ := T.d_count_lots
  exact ⟨⟨fd, fn_count_lots T F, F.bindsN (fun _ _ _ _ _ _ us hl => match us, hl with | [_], _ => rfl)⟩, T.g_count_lots, F.kp⟩
theorem fn_init_Sheet (T : Txt K mg) {f : Addr} {fd : FuncData} (F : FunD K "__init__" "Sheet.__init__" (defArgs s_init_Sheet) (defBody s_init_Sheet) (defScope s_init_Sheet) [] [("rests", .ref (kwdAt ("Sheet", some "__init__") "rests" K)), ("kerf", .int 0), ("stages", .non), ("cut_cost", .int 0)] f fd) : FnOk P w K mg base (L2.CX P w) 2 f fd ps_init_Sheet (spI K F_init_Sheet ps_init_Sheet.length) := by
  have h_check_many := ok_check_many (P := P) (w := w) (base := base) T
  have h_check_names := ok_check_names (P := P) (w := w) (base := base) T
  have h_check_days := ok_check_days (P := P) (w := w) (base := base) T
  have h_in_range := ok_in_range (P := P) (w := w) (base := base) T
  have h_count_lots := ok_count_lots (P := P) (w := w) (base := base) T
  exact fn_ok finR_ok (N := N_init_Sheet) (ps := ps_init_Sheet) (k := 1) F sc_init_Sheet (fun cdv A outer s H E hr tk hp => bi_cons (si_drop (ei_f h_check_many hr tk (by decide) (ai_cons (ei_str) (ai_cons (ei_var 1) (ai_cons (ei_int) (ai_cons (ei_ki T.k_MOST_KINDS) (ai_nil))))) (axn_cons (axn_cons (axn_cons (axn_cons (axn_nil))))))) (bi_cons (si_drop (ei_f h_check_many hr tk (by decide) (ai_cons (ei_str) (ai_cons (ei_var 2) (ai_cons (ei_int) (ai_cons (ei_ki T.k_MOST_BOARD_SORTS) (ai_nil))))) (axn_cons (axn_cons (axn_cons (axn_cons (axn_nil))))))) (bi_cons (si_drop (ei_f h_check_many hr tk (by decide) (ai_cons (ei_str) (ai_cons (ei_var 3) (ai_cons (ei_int) (ai_cons (ei_ki T.k_MOST_DAYS) (ai_nil))))) (axn_cons (axn_cons (axn_cons (axn_cons (axn_nil))))))) (bi_cons (si_drop (ei_f h_check_many hr tk (by decide) (ai_cons (ei_str) (ai_cons (ei_var 4) (ai_cons (ei_int) (ai_cons (ei_ki T.k_MOST_RESTS) (ai_nil))))) (axn_cons (axn_cons (axn_cons (axn_cons (axn_nil))))))) (bi_cons (si_drop (ei_f h_check_names hr tk (by decide) (ai_cons (ei_lst (ai_star (ei_var 1) (ai_star (ei_var 2) (ai_star (ei_var 4) (ai_nil))))) (ai_nil)) (axn_cons (axn_nil)))) (bi_cons (si_drop (ei_f h_check_days hr tk (by decide) (ai_cons (ei_var 3) (ai_cons (ei_var 1) (ai_cons (ei_var 2) (ai_nil)))) (axn_cons (axn_cons (axn_cons (axn_nil)))))) (bi_cons (si_drop (ei_f h_in_range hr tk (by decide) (ai_cons (ei_str) (ai_cons (ei_var 5) (ai_cons (ei_int) (ai_cons (ei_ki T.k_MOST_KERF) (ai_nil))))) (axn_cons (axn_cons (axn_cons (axn_cons (axn_nil))))))) (bi_cons (si_if (ti_cmp op_notN os_notN (ei_var 6) (ei_non)) (bi_one (si_drop (ei_f h_in_range hr tk (by decide) (ai_cons (ei_str) (ai_cons (ei_var 6) (ai_cons (ei_int) (ai_cons (ei_ki T.k_MOST_STAGES) (ai_nil))))) (axn_cons (axn_cons (axn_cons (axn_cons (axn_nil)))))))) (bi_nil)) (bi_cons (si_drop (ei_f h_in_range hr tk (by decide) (ai_cons (ei_str) (ai_cons (ei_var 7) (ai_cons (ei_int) (ai_cons (ei_ki T.k_MOST_COST) (ai_nil))))) (axn_cons (axn_cons (axn_cons (axn_cons (axn_nil))))))) (bi_cons (si_if (ti_cmp op_gt os_gt (ei_f h_count_lots hr tk (by decide) (ai_cons (ei_var 3) (ai_nil)) (axn_cons (axn_nil))) (ei_fld T.pok (ei_var 0))) (bi_one (si_bad)) (bi_nil)) (bi_cons (si_if (ti_cmp op_gt os_gt (ei_sum rfl T.g_sum (ai_cons (ei_lc (own := [("day", 8)]) rfl (sc_init_Sheet).nd (ii_any (ei_var 3)) (blkOk_by (N := N_init_Sheet) (sc := defScope s_init_Sheet) (by decide +kernel)) (fun _ _ _ _ _ => gi_name 8 (sc_init_Sheet).nd) (fun _ _ _ _ _ => tsi_nil) (fun _ _ _ _ _ => ei_sum rfl T.g_sum (ai_cons (ei_fld T.pok (ei_var 8)) (ai_nil)))) (ai_nil))) (ei_fld T.pok (ei_var 0))) (bi_one (si_bad)) (bi_nil)) (bi_cons (si_fld 0 "kinds" T.pok (ei_var 0) (ei_tupc T.g_tuple (ai_cons (ei_var 1) (ai_nil)))) (bi_cons (si_fld 0 "boards" T.pok (ei_var 0) (ei_tupc T.g_tuple (ai_cons (ei_var 2) (ai_nil)))) (bi_cons (si_fld 0 "days" T.pok (ei_var 0) (ei_tupc T.g_tuple (ai_cons (ei_var 3) (ai_nil)))) (bi_cons (si_fld 0 "rests" T.pok (ei_var 0) (ei_tupc T.g_tuple (ai_cons (ei_var 4) (ai_nil)))) (bi_cons (si_fld 0 "kerf" T.pok (ei_var 0) (ei_var 5)) (bi_cons (si_fld 0 "stages" T.pok (ei_var 0) (ei_var 6)) (bi_one (si_fld 0 "cut_cost" T.pok (ei_var 0) (ei_var 7))))))))))))))))))))
theorem ok_init_Sheet_k0 (T : Txt K mg) : HasM P w K mg base 2 "Sheet" ps_init_Sheet 3 ["rests", "stages"] (fun xs ys => perm [0, 1, 2, 3, 6, 4, 7, 5] (xs ++ ([.int 0, .int 0] ++ ys))) F_init_Sheet := by
  obtain ⟨fd, F⟩ := T.d_init_Sheet
  exact ⟨⟨_, fd, T.m_Sheet, fn_init_Sheet T F, kb3 F 4 ["rests", "stages"] [("kerf", .int 0), ("cut_cost", .int 0)] [0, 1, 2, 3, 6, 4, 7, 5] [.int 0, .int 0] (List.cons_ne_nil _ _) (by intro q hq; simp only [List.mem_cons, List.not_mem_nil, or_false, or_self] at hq ⊢; first | exact hq.elim | (rcases hq with rfl | rfl | rfl <;> simp) | (rcases hq with rfl | rfl <;> simp) | (subst hq; simp)) (.cons (.int _) (.cons (.int _) (.nil))) (fun _ _ _ _ _ _ us mv ws h1 h2 h3 => match us, mv, ws, h1, h2, h3 with | [_, _, _, _], [_, _], [_, _], _, _, _ => ⟨_, _, _, _, _, _, rfl, rfl, ⟨_, _, _, _, _, _, rfl, rfl, rfl⟩⟩)⟩, T.g_Sheet⟩
theorem fn_ascending_cells (T : Txt K mg) {f : Addr} {fd : FuncData} (F : FunD K "ascending_cells" "ascending_cells" (defArgs s_ascending_cells) (defBody s_ascending_cells) (defScope s_ascending_cells) [] [] f fd) : FnOk P w K mg base (L2.CX P w) 1 f fd ps_ascending_cells (spI K F_ascending_cells ps_ascending_cells.length) := by
  exact fn_ok finR_ok (N := N_ascending_cells) (ps := ps_ascending_cells) (k := 0) F sc_ascending_cells (fun cdv A outer s H E hr tk hp => bi_cons (si_set 1 (sc_ascending_cells).nd (ei_sorted T.g_sorted (ai_cons (ei_lc (own := [("x", 2), ("y", 3)]) rfl (sc_ascending_cells).nd (ii_any (ei_var 0)) (blkOk_by (N := N_ascending_cells) (sc := defScope s_ascending_cells) (by decide +kernel)) (fun _ _ _ _ _ => gi_tup 2 rfl (gsi_cons (gi_name 2 (sc_ascending_cells).nd) (gsi_cons (gi_name 3 (sc_ascending_cells).nd) (gsi_nil))) (len_cons (len_cons (len_nil)))) (fun _ _ _ _ _ => tsi_nil) (fun _ _ _ _ _ => ei_tup (ai_cons (ei_var 2) (ai_cons (ei_var 3) (ai_nil))))) (ai_nil)))) (bi_one (si_ret (ei_tupc T.g_tuple (ai_cons (ei_lc (own := [("at", 4), ("pair", 5)]) rfl (sc_ascending_cells).nd (ii_enum rfl T.g_enumerate (ei_var 1)) (blkOk_by (N := N_ascending_cells) (sc := defScope s_ascending_cells) (by decide +kernel)) (fun _ _ _ _ _ => gi_tup 2 rfl (gsi_cons (gi_name 4 (sc_ascending_cells).nd) (gsi_cons (gi_name 5 (sc_ascending_cells).nd) (gsi_nil))) (len_cons (len_cons (len_nil)))) (fun _ _ _ _ _ => tsi_one (ti_w (tw_or (ti_cmp (op_eq2 hr.units) os_eq (ei_var 4) (ei_int)) (tw_or1 (ti_cmp (op_ne2 hr.units) os_ne (ei_var 5) (ei_ix (ei_var 1) (ei_op op_sub os_sub (ei_var 4) (ei_int)))))))) (fun _ _ _ _ _ => ei_var 5)) (ai_nil))))))
theorem ok_ascending_cells (T : Txt K mg) : Has P w K mg base 1 "ascending_cells" (He.ga K "ascending_cells") ps_ascending_cells F_ascending_cells := by
  obtain ⟨fd, F⟩ := T.d_ascending_cells
  exact ⟨⟨fd, fn_ascending_cells T F, F.bindsN (fun _ _ _ _ _ _ us hl => match us, hl with | [_], _ => rfl)⟩, T.g_ascending_cells, F.kp⟩
theorem fn_init_Board (T : Txt K mg) {f : Addr} {fd : FuncData} (F : FunD K "__init__" "Board.__init__" (defArgs s_init_Board) (defBody s_init_Board) (defScope s_init_Board) [] [("trim", .int 0), ("faults", .ref (kwdAt ("Board", some "__init__") "faults" K))] f fd) : FnOk P w K mg base (L2.CX P w) 3 f fd ps_init_Board (spI K F_init_Board ps_init_Board.length) := by
  have h_check_name := ok_check_name (P := P) (w := w) (base := base) T
  have h_check_sides := ok_check_sides (P := P) (w := w) (base := base) T
  have h_in_range := ok_in_range (P := P) (w := w) (base := base) T
  have h_ascending_cells := ok_ascending_cells (P := P) (w := w) (base := base) T
  exact fn_ok finR_ok (N := N_init_Board) (ps := ps_init_Board) (k := 2) F sc_init_Board (fun cdv A outer s H E hr tk hp => bi_cons (si_drop (ei_f h_check_name hr tk (by decide) (ai_cons (ei_var 1) (ai_nil)) (axn_cons (axn_nil)))) (bi_cons (si_drop (ei_f h_check_sides hr tk (by decide) (ai_cons (ei_var 2) (ai_cons (ei_var 3) (ai_nil))) (axn_cons (axn_cons (axn_nil))))) (bi_cons (si_drop (ei_f h_in_range hr tk (by decide) (ai_cons (ei_str) (ai_cons (ei_var 4) (ai_cons (ei_int) (ai_cons (ei_ki T.k_MOST_COST) (ai_nil))))) (axn_cons (axn_cons (axn_cons (axn_cons (axn_nil))))))) (bi_cons (si_if (ti_w (tw_or (ti_cmp op_lt os_lt (ei_var 5) (ei_int)) (tw_or (ti_cmp op_ge os_ge (ei_op op_mulD os_mul (ei_int) (ei_var 5)) (ei_var 2)) (tw_or1 (ti_cmp op_ge os_ge (ei_op op_mulD os_mul (ei_int) (ei_var 5)) (ei_var 3)))))) (bi_one (si_bad)) (bi_nil)) (bi_cons (si_drop (ei_f h_in_range hr tk (by decide) (ai_cons (ei_str) (ai_cons (ei_op op_mulD os_mul (ei_op op_sub os_sub (ei_var 2) (ei_op op_mulD os_mul (ei_int) (ei_var 5))) (ei_op op_sub os_sub (ei_var 3) (ei_op op_mulD os_mul (ei_int) (ei_var 5)))) (ai_cons (ei_int) (ai_cons (ei_ki T.k_MOST_AREA) (ai_nil))))) (axn_cons (axn_cons (axn_cons (axn_cons (axn_nil))))))) (bi_cons (si_if (ti_cmp op_gt os_gt (ei_len T.g_len (ai_cons (ei_var 6) (ai_nil))) (ei_ki T.k_MOST_FAULTS)) (bi_one (si_bad)) (bi_nil)) (bi_cons (si_for (vs := [7, 8]) hp rfl (ii_any (ei_var 6)) (gi_tup 2 rfl (gsi_cons (gi_name 7 (sc_init_Board).nd) (gsi_cons (gi_name 8 (sc_init_Board).nd) (gsi_nil))) (len_cons (len_cons (len_nil)))) (bi_one (si_if (ti_not (ti_w (tw_and (ti_chain op_le os_le op_lt os_lt (ei_int) (ei_var 7) (ei_var 2)) (tw_and1 (ti_chain op_le os_le op_lt os_lt (ei_int) (ei_var 8) (ei_var 3)))))) (bi_one (si_bad)) (bi_nil)))) (bi_cons (si_fld 0 "name" T.pok (ei_var 0) (ei_var 1)) (bi_cons (si_fld 0 "length" T.pok (ei_var 0) (ei_var 2)) (bi_cons (si_fld 0 "width" T.pok (ei_var 0) (ei_var 3)) (bi_cons (si_fld 0 "cost" T.pok (ei_var 0) (ei_var 4)) (bi_cons (si_fld 0 "trim" T.pok (ei_var 0) (ei_var 5)) (bi_one (si_fld 0 "faults" T.pok (ei_var 0) (ei_f h_ascending_cells hr tk (by decide) (ai_cons (ei_var 6) (ai_nil)) (axn_cons (axn_nil)))))))))))))))))
theorem ok_init_Board_k0 (T : Txt K mg) : HasM P w K mg base 3 "Board" ps_init_Board 4 [] (fun xs ys => perm [0, 1, 2, 3, 4, 5, 6] (xs ++ ([.int 0, .tup []] ++ ys))) F_init_Board := by
  obtain ⟨fd, F⟩ := T.d_init_Board
  exact ⟨⟨_, fd, T.m_Board, fn_init_Board T F, kb3 F 5 [] [("trim", .int 0), ("faults", .ref (kwdAt ("Board", some "__init__") "faults" K))] [0, 1, 2, 3, 4, 5, 6] [.int 0, .tup []] (List.cons_ne_nil _ _) (by intro q hq; simp only [List.mem_cons, List.not_mem_nil, or_false, or_self] at hq ⊢; first | exact hq.elim | (rcases hq with rfl | rfl | rfl <;> simp) | (rcases hq with rfl | rfl <;> simp) | (subst hq; simp)) (.cons (.int _) (.cons (emptyB_ok T.e_init_Board_faults) (.nil))) (fun _ _ _ _ _ _ us mv ws h1 h2 h3 => match us, mv, ws, h1, h2, h3 with | [_, _, _, _, _], [_, _], [], _, _, _ => ⟨_, _, _, _, _, _, rfl, rfl, ⟨_, _, _, _, _, _, rfl, rfl, rfl⟩⟩)⟩, T.g_Board⟩
theorem fn__law_built (T : Txt K mg) {f : Addr} {fd : FuncData} (F : FunD K "_law_built" "_law_built" (defArgs s__law_built) (defBody s__law_built) (defScope s__law_built) [] [] f fd) : FnOk P w K mg base (L2.CX P w) 5 f fd ps__law_built (spI K F__law_built ps__law_built.length) := by
  have h_init_Kind_k0 := ok_init_Kind_k0 (P := P) (w := w) (base := base) T
  have h_init_Rest_k0 := ok_init_Rest_k0 (P := P) (w := w) (base := base) T
  have h_init_Day_k0 := ok_init_Day_k0 (P := P) (w := w) (base := base) T
  have h_init_Sheet_k0 := ok_init_Sheet_k0 (P := P) (w := w) (base := base) T
  have h_init_Board_k0 := ok_init_Board_k0 (P := P) (w := w) (base := base) T
  exact fn_ok finR_ok (N := N__law_built) (ps := ps__law_built) (k := 4) F sc__law_built (fun cdv A outer s H E hr tk hp => bi_cons (si_setLc 1 (own := [("a", 5)]) rfl (sc__law_built).nd (ii_any (ei_ix (ei_var 0) (ei_int))) (blkOk_by (N := N__law_built) (sc := defScope s__law_built) (by decide +kernel)) (fun _ _ _ _ _ => gi_name 5 (sc__law_built).nd) (fun _ _ _ _ _ => tsi_nil) (fun _ _ _ _ _ => ei_mk (h_init_Kind_k0) hr takes_W0 (by decide) (fun _ _ _ => rfl) (fun xs ys h1 h2 => match xs, ys, h1, h2 with | [_, _, _], [_], _, _ => rfl) (ai_cons (ei_ix (ei_var 5) (ei_int)) (ai_cons (ei_ix (ei_var 5) (ei_int)) (ai_cons (ei_ix (ei_var 5) (ei_int)) (ai_nil)))) (ki_cons (ei_ix (ei_var 5) (ei_int)) (ki_nil)) (axn_cons (axn_cons (axn_cons (axn_nil)))) (axn_cons (axn_nil))) (sw_true rfl rfl rfl (by decide +kernel))) (bi_cons (si_setLc 2 (own := [("a", 5)]) rfl (sc__law_built).nd (ii_any (ei_ix (ei_var 0) (ei_int))) (blkOk_by (N := N__law_built) (sc := defScope s__law_built) (by decide +kernel)) (fun _ _ _ _ _ => gi_name 5 (sc__law_built).nd) (fun _ _ _ _ _ => tsi_nil) (fun _ _ _ _ _ => ei_mk (h_init_Rest_k0) hr takes_W0 (by decide) (fun _ _ _ => rfl) (fun xs ys h1 h2 => match xs, ys, h1, h2 with | [_, _, _], [], _, _ => rfl) (ai_cons (ei_ix (ei_var 5) (ei_int)) (ai_cons (ei_ix (ei_var 5) (ei_int)) (ai_cons (ei_ix (ei_var 5) (ei_int)) (ai_nil)))) (ki_nil) (axn_cons (axn_cons (axn_cons (axn_nil)))) (axn_nil)) (sw_true rfl rfl rfl (by decide +kernel))) (bi_cons (si_set 3 (sc__law_built).nd (ei_lstL (ai_nil))) (bi_cons (si_for (vs := [4]) hp rfl (ii_rng1 rfl T.g_range (ai_cons (ei_ix (ei_var 0) (ei_int)) (ai_nil))) (gi_name 4 (sc__law_built).nd) (bi_one (si_app 3 (ei_var 3) (ei_mk (h_init_Day_k0) hr tk (by decide) (fun _ _ _ => rfl) (fun xs ys h1 h2 => match xs, ys, h1, h2 with | [_, _], [], _, _ => rfl) (ai_cons (ei_op op_mulD os_mul (ei_lst (ai_cons (ei_tup (ai_cons (ei_int) (ai_cons (ei_int) (ai_nil)))) (ai_nil))) (ei_len T.g_len (ai_cons (ei_ix (ei_var 0) (ei_int)) (ai_nil)))) (ai_cons (ei_tup (ai_cons (ei_int) (ai_nil))) (ai_nil))) (ki_nil) (axn_cons (axn_cons (axn_nil))) (axn_nil))))) (bi_frz 3 (bi_one (si_ret (ei_mk (h_init_Sheet_k0) hr tk (by decide) (fun _ _ _ => rfl) (fun xs ys h1 h2 => match xs, ys, h1, h2 with | [_, _, _], [_, _], _, _ => rfl) (ai_cons (ei_var 1) (ai_cons (ei_lst (ai_cons (ei_mk (h_init_Board_k0) hr tk (by decide) (fun _ _ _ => rfl) (fun xs ys h1 h2 => match xs, ys, h1, h2 with | [_, _, _, _], [], _, _ => rfl) (ai_cons (ei_str) (ai_cons (ei_int) (ai_cons (ei_int) (ai_cons (ei_int) (ai_nil))))) (ki_nil) (axn_cons (axn_cons (axn_cons (axn_cons (axn_nil))))) (axn_nil)) (ai_nil))) (ai_cons (ei_var 3) (ai_nil)))) (ki_cons (ei_var 2) (ki_cons (ei_ix (ei_var 0) (ei_int)) (ki_nil))) (axn_cons (axn_cons (axn_cons (axn_nil)))) (axn_cons (axn_cons (axn_nil)))))))))))
theorem ok__law_built (T : Txt K mg) : Has P w K mg base 5 "_law_built" (He.ga K "_law_built") ps__law_built F__law_built := by
  obtain ⟨fd, F⟩ := T.d__law_built
  exact ⟨⟨fd, fn__law_built T F, F.bindsN (fun _ _ _ _ _ _ us hl => match us, hl with | [_], _ => rfl)⟩, T.g__law_built, F.kp⟩
theorem fn__law_part (T : Txt K mg) {f : Addr} {fd : FuncData} (F : FunD K "_law_part" "_law_part" (defArgs s__law_part) (defBody s__law_part) (defScope s__law_part) [] [] f fd) : FnOk P w K mg base (L2.CX P w) 2 f fd ps__law_part (spI K F__law_part ps__law_part.length) := by
  have h__law_draw := ok__law_draw (P := P) (w := w) (base := base) T
  exact fn_ok finR_ok (N := N__law_part) (ps := ps__law_part) (k := 1) F sc__law_part (fun cdv A outer s H E hr tk hp => bi_cons (si_set 2 (sc__law_part).nd (ei_ix (ei_var 1) (ei_int))) (bi_cons (si_set 3 (sc__law_part).nd (ei_ix (ei_var 1) (ei_int))) (bi_cons (si_set 4 (sc__law_part).nd (ei_tup (ai_cons (ei_un un_neg us_neg (ei_int)) (ai_cons (ei_int) (ai_nil))))) (bi_cons (si_if (ti_cmp op_notN os_notN (ei_var 3) (ei_non)) (bi_cons (si_set 13 (sc__law_part).nd (ei_f h__law_draw hr tk (by decide) (ai_cons (ei_var 0) (ai_cons (ei_op op_addD os_add (ei_var 3) (ei_int)) (ai_nil))) (axn_cons (axn_cons (axn_nil))))) (bi_cons (si_set 4 (sc__law_part).nd (ei_tup (ai_cons (ei_var 13) (ai_cons (ei_int) (ai_nil))))) (bi_one (si_if (ti_cmp op_lt os_lt (ei_var 13) (ei_var 3)) (bi_one (si_set 4 (sc__law_part).nd (ei_tup (ai_cons (ei_var 13) (ai_cons (ei_op op_addD os_add (ei_int) (ei_f h__law_draw hr tk (by decide) (ai_cons (ei_var 0) (ai_cons (ei_int) (ai_nil))) (axn_cons (axn_cons (axn_nil))))) (ai_nil)))))) (bi_nil))))) (bi_nil)) (bi_cons (si_set 5 (sc__law_part).nd (ei_op op_addD os_add (ei_ix (ei_var 1) (ei_int)) (ei_ix (ei_var 1) (ei_int)))) (bi_cons (si_set 6 (sc__law_part).nd (ei_ix (ei_var 5) (ei_f h__law_draw hr tk (by decide) (ai_cons (ei_var 0) (ai_cons (ei_len T.g_len (ai_cons (ei_var 5) (ai_nil))) (ai_nil))) (axn_cons (axn_cons (axn_nil)))))) (bi_cons (si_set 7 (sc__law_part).nd (ei_lstL (ai_cons (ei_ix (ei_var 6) (ei_int)) (ai_cons (ei_ix (ei_var 6) (ei_int)) (ai_nil))))) (bi_cons (si_if (ti_cmp (op_eq2 hr.units) os_eq (ei_f h__law_draw hr tk (by decide) (ai_cons (ei_var 0) (ai_cons (ei_int) (ai_nil))) (axn_cons (axn_cons (axn_nil)))) (ei_int)) (bi_one (si_set 7 (sc__law_part).nd (ei_lstL (ai_cons (ei_ix (ei_var 6) (ei_int)) (ai_cons (ei_ix (ei_var 6) (ei_int)) (ai_nil)))))) (bi_nil)) (bi_cons (si_for (vs := [8]) hp rfl (ii_rng1 rfl T.g_range (ai_cons (ei_int) (ai_nil))) (gi_name 8 (sc__law_part).nd) (bi_one (si_sets 7 (ei_var 7) (ei_var 8) (ei_op op_sub os_sub (ei_op op_addD os_add (ei_ix (ei_var 7) (ei_var 8)) (ei_f h__law_draw hr tk (by decide) (ai_cons (ei_var 0) (ai_cons (ei_int) (ai_nil))) (axn_cons (axn_cons (axn_nil))))) (ei_int))))) (bi_frz 7 (bi_cons (si_set 9 (sc__law_part).nd (ei_f h__law_draw hr tk (by decide) (ai_cons (ei_var 0) (ai_cons (ei_int) (ai_nil))) (axn_cons (axn_cons (axn_nil))))) (bi_cons (si_if (ti_cmp op_gt os_gt (ei_var 9) (ei_int)) (bi_one (si_set 7 (sc__law_part).nd (ei_ix (ei_lst (ai_cons (ei_lst (ai_cons (ei_int) (ai_cons (ei_int) (ai_nil)))) (ai_cons (ei_lst (ai_cons (ei_int) (ai_cons (ei_int) (ai_nil)))) (ai_cons (ei_lst (ai_cons (ei_int) (ai_cons (ei_int) (ai_nil)))) (ai_nil))))) (ei_op op_sub os_sub (ei_var 9) (ei_int))))) (bi_nil)) (bi_cons (si_set 10 (sc__law_part).nd (ei_min rfl T.g_min (ai_cons (ei_max rfl T.g_max (ai_cons (ei_ix (ei_var 7) (ei_int)) (ai_cons (ei_int) (ai_nil)))) (ai_cons (ei_int) (ai_nil))))) (bi_cons (si_set 11 (sc__law_part).nd (ei_min3 rfl T.g_min (ai_cons (ei_max rfl T.g_max (ai_cons (ei_ix (ei_var 7) (ei_int)) (ai_cons (ei_int) (ai_nil)))) (ai_cons (ei_op op_fdivW os_div (ei_int) (ei_var 10)) (ai_cons (ei_int) (ai_nil)))))) (bi_cons (si_set 12 (sc__law_part).nd (ei_op op_addD os_add (ei_tup (ai_cons (ei_f h__law_draw hr tk (by decide) (ai_cons (ei_var 0) (ai_cons (ei_var 2) (ai_nil))) (axn_cons (axn_cons (axn_nil)))) (ai_cons (ei_var 10) (ai_cons (ei_var 11) (ai_nil))))) (ei_var 4))) (bi_cons (si_if (ti_cmp (op_eq2 hr.units) os_eq (ei_f h__law_draw hr tk (by decide) (ai_cons (ei_var 0) (ai_cons (ei_int) (ai_nil))) (axn_cons (axn_cons (axn_nil)))) (ei_int)) (bi_cons (si_set 14 (sc__law_part).nd (ei_lstL (ai_cons (ei_tup (ai_cons (ei_int) (ai_cons (ei_int) (ai_nil)))) (ai_cons (ei_tup (ai_cons (ei_op op_sub os_sub (ei_var 10) (ei_int)) (ai_cons (ei_op op_sub os_sub (ei_var 11) (ei_int)) (ai_nil)))) (ai_nil))))) (bi_cons (si_app 14 (ei_var 14) (ei_tup (ai_cons (ei_f h__law_draw hr tk (by decide) (ai_cons (ei_var 0) (ai_cons (ei_var 10) (ai_nil))) (axn_cons (axn_cons (axn_nil)))) (ai_cons (ei_f h__law_draw hr tk (by decide) (ai_cons (ei_var 0) (ai_cons (ei_var 11) (ai_nil))) (axn_cons (axn_cons (axn_nil)))) (ai_nil))))) (bi_frz 14 (bi_one (si_set 12 (sc__law_part).nd (ei_op op_addD os_add (ei_var 12) (ei_ix (ei_var 14) (ei_f h__law_draw hr tk (by decide) (ai_cons (ei_var 0) (ai_cons (ei_int) (ai_nil))) (axn_cons (axn_cons (axn_nil))))))))))) (bi_nil)) (bi_one (si_ret (ei_var 12)))))))))))))))))))
theorem ok__law_part (T : Txt K mg) : Has P w K mg base 2 "_law_part" (He.ga K "_law_part") ps__law_part F__law_part := by
  obtain ⟨fd, F⟩ := T.d__law_part
  exact ⟨⟨fd, fn__law_part T F, F.bindsN (fun _ _ _ _ _ _ us hl => match us, hl with | [_, _], _ => rfl)⟩, T.g__law_part, F.kp⟩
theorem fn__law_same (T : Txt K mg) {f : Addr} {fd : FuncData} (F : FunD K "_law_same" "_law_same" (defArgs s__law_same) (defBody s__law_same) (defScope s__law_same) [] [] f fd) (hb : Binds K fd ps__law_same []) (gl : mg "_law_same" = some (.ref f)) : ∀ n : Nat, FnOk P w K mg base (L2.CX P w) (0 + n) f fd ps__law_same (spI K (F__law_same n) ps__law_same.length)
  | 0 => fn_bad
  | n + 1 => by
    have hrec : Has P w K mg base (0 + n) "_law_same" f ps__law_same (F__law_same n) := ⟨⟨fd, fn__law_same T F hb gl n, hb⟩, gl, F.kp⟩
    exact fn_ok finR_ok (N := N__law_same) (ps := ps__law_same) (k := 0 + n) F sc__law_same (fun cdv A outer s H E hr tk hp => bi_cons (si_if (ti_cmp op_isN os_isN (ei_var 1) (ei_non)) (bi_one (si_ret (ei_cmp op_isN os_isN (ei_var 0) (ei_non)))) (bi_nil)) (bi_cons (si_if (ti_val (ei_isi T.pok T.g_isinstance (ai_cons (ei_var 1) (ai_cons (ei_tyBool T.g_bool) (ai_nil))))) (bi_one (si_ret (ei_and (ei_isi T.pok T.g_isinstance (ai_cons (ei_var 0) (ai_cons (ei_tyBool T.g_bool) (ai_nil)))) (ei_and1 (ei_cmp (op_eq2 hr.units) os_eq (ei_var 0) (ei_var 1)))))) (bi_nil)) (bi_cons (si_if (ti_val (ei_isi T.pok T.g_isinstance (ai_cons (ei_var 1) (ai_cons (ei_tyInt T.g_int) (ai_nil))))) (bi_one (si_ret (ei_and (ei_isi T.pok T.g_isinstance (ai_cons (ei_var 0) (ai_cons (ei_tyInt T.g_int) (ai_nil)))) (ei_and (ei_not (ei_isi T.pok T.g_isinstance (ai_cons (ei_var 0) (ai_cons (ei_tyBool T.g_bool) (ai_nil))))) (ei_and1 (ei_cmp (op_eq2 hr.units) os_eq (ei_var 0) (ei_var 1))))))) (bi_nil)) (bi_cons (si_if (ti_val (ei_isi T.pok T.g_isinstance (ai_cons (ei_var 1) (ai_cons (ei_tyStr T.g_str) (ai_nil))))) (bi_one (si_ret (ei_and (ei_isi T.pok T.g_isinstance (ai_cons (ei_var 0) (ai_cons (ei_tyStr T.g_str) (ai_nil)))) (ei_and1 (ei_cmp (op_eq2 hr.units) os_eq (ei_var 0) (ei_var 1)))))) (bi_nil)) (bi_cons (si_if (ti_w (tw_and (ti_val (ei_isi T.pok T.g_isinstance (ai_cons (ei_var 1) (ai_cons (ei_tyTuple T.g_tuple) (ai_nil))))) (tw_and1 (ti_not (ti_val (ei_isi T.pok T.g_isinstance (ai_cons (ei_var 0) (ai_cons (ei_tyTuple T.g_tuple) (ai_nil))))))))) (bi_one (si_ret (ei_bl))) (bi_nil)) (bi_cons (si_if (ti_w (tw_and (ti_val (ei_isi T.pok T.g_isinstance (ai_cons (ei_var 1) (ai_cons (ei_tyList T.g_list) (ai_nil))))) (tw_and1 (ti_not (ti_val (ei_isi T.pok T.g_isinstance (ai_cons (ei_var 0) (ai_cons (ei_tyList T.g_list) (ai_nil))))))))) (bi_one (si_ret (ei_bl))) (bi_nil)) (bi_cons (si_if (ti_cmp (op_ne2 hr.units) os_ne (ei_len T.g_len (ai_cons (ei_var 0) (ai_nil))) (ei_len T.g_len (ai_cons (ei_var 1) (ai_nil)))) (bi_one (si_ret (ei_bl))) (bi_nil)) (bi_cons (si_for (vs := [2]) hp rfl (ii_rng1 rfl T.g_range (ai_cons (ei_len T.g_len (ai_cons (ei_var 1) (ai_nil))) (ai_nil))) (gi_name 2 (sc__law_same).nd) (bi_one (si_if (ti_not (ti_val (ei_f hrec hr tk (Nat.le_refl _) (ai_cons (ei_ix (ei_var 0) (ei_var 2)) (ai_cons (ei_ix (ei_var 1) (ei_var 2)) (ai_nil))) (axn_cons (axn_cons (axn_nil)))))) (bi_one (si_ret (ei_bl))) (bi_nil)))) (bi_one (si_ret (ei_bl)))))))))))
theorem ok__law_same (T : Txt K mg) (n : Nat) : Has P w K mg base (0 + n) "_law_same" (He.ga K "_law_same") ps__law_same (F__law_same n) := by
  obtain ⟨fd, F⟩ := T.d__law_same
  have hb : Binds K fd ps__law_same [] := F.bindsN (fun _ _ _ _ _ _ us hl => match us, hl with | [_, _], _ => rfl)
  exact ⟨⟨fd, fn__law_same T F hb T.g__law_same n, hb⟩, T.g__law_same, F.kp⟩
theorem fn_is_clean (T : Txt K mg) {f : Addr} {fd : FuncData} (F : FunD K "is_clean" "is_clean" (defArgs s_is_clean) (defBody s_is_clean) (defScope s_is_clean) [] [] f fd) : FnOk P w K mg base (L2.CX P w) 1 f fd ps_is_clean (spI K F_is_clean ps_is_clean.length) := by
  exact fn_ok finR_ok (N := N_is_clean) (ps := ps_is_clean) (k := 0) F sc_is_clean (fun cdv A outer s H E hr tk hp => bi_one (si_ret (ei_cmp (op_eq2 hr.units) os_eq (ei_len T.g_len (ai_cons (ei_var 0) (ai_nil))) (ei_ki T.k_FIRST_CELL))))
theorem ok_is_clean (T : Txt K mg) : Has P w K mg base 1 "is_clean" (He.ga K "is_clean") ps_is_clean F_is_clean := by
  obtain ⟨fd, F⟩ := T.d_is_clean
  exact ⟨⟨fd, fn_is_clean T F, F.bindsN (fun _ _ _ _ _ _ us hl => match us, hl with | [_], _ => rfl)⟩, T.g_is_clean, F.kp⟩
theorem fn__law_fitting (T : Txt K mg) {f : Addr} {fd : FuncData} (F : FunD K "_law_fitting" "_law_fitting" (defArgs s__law_fitting) (defBody s__law_fitting) (defScope s__law_fitting) [] [] f fd) : FnOk P w K mg base (L2.CX P w) 1 f fd ps__law_fitting (spI K F__law_fitting ps__law_fitting.length) := by
  exact fn_ok finR_ok (N := N__law_fitting) (ps := ps__law_fitting) (k := 0) F sc__law_fitting (fun cdv A outer s H E hr tk hp => bi_cons (si_if (ti_w (tw_or (ti_cmp op_lt os_lt (ei_var 2) (ei_int)) (tw_or1 (ti_cmp op_ge os_ge (ei_var 2) (ei_len T.g_len (ai_cons (ei_ix (ei_var 0) (ei_int)) (ai_nil))))))) (bi_one (si_ret (ei_tup (ai_cons (ei_str) (ai_cons (ei_str) (ai_cons (ei_var 2) (ai_nil))))))) (bi_nil)) (bi_cons (si_set 3 (sc__law_fitting).nd (ei_ix (ei_ix (ei_var 0) (ei_int)) (ei_var 2))) (bi_cons (si_set 4 (sc__law_fitting).nd (ei_and (ei_cmp op_le os_le (ei_ix (ei_var 3) (ei_int)) (ei_ix (ei_var 1) (ei_int))) (ei_and1 (ei_cmp op_le os_le (ei_ix (ei_var 3) (ei_int)) (ei_ix (ei_var 1) (ei_int)))))) (bi_cons (si_if (ti_w (tw_and (ti_val (ei_ix (ei_var 3) (ei_int))) (tw_and (ti_cmp op_le os_le (ei_ix (ei_var 3) (ei_int)) (ei_ix (ei_var 1) (ei_int))) (tw_and1 (ti_cmp op_le os_le (ei_ix (ei_var 3) (ei_int)) (ei_ix (ei_var 1) (ei_int))))))) (bi_one (si_set 4 (sc__law_fitting).nd (ei_bl))) (bi_nil)) (bi_one (si_ret (ei_tup (ai_cons (ei_str) (ai_cons (ei_and (ei_var 4) (ei_and1 (ei_cmp (op_eq2 hr.units) os_eq (ei_len T.g_len (ai_cons (ei_var 1) (ai_nil))) (ei_int)))) (ai_nil))))))))))
theorem ok__law_fitting (T : Txt K mg) : Has P w K mg base 1 "_law_fitting" (He.ga K "_law_fitting") ps__law_fitting F__law_fitting := by
  obtain ⟨fd, F⟩ := T.d__law_fitting
  exact ⟨⟨fd, fn__law_fitting T F, F.bindsN (fun _ _ _ _ _ _ us hl => match us, hl with | [_, _, _], _ => rfl)⟩, T.g__law_fitting, F.kp⟩
theorem ok_x_NoThing (T : Txt K mg) : HasE P w K mg base "NoThing" ["what", "index"] (txtAt 0) := by
  obtain ⟨fd, E⟩ := T.x_NoThing
  exact ⟨⟨_, fd, N_x_NoThing, ps_x_NoThing, _, E.oex, E.iC, E.tI, exi_fn (k := 0) (N := N_x_NoThing) (ps := ps_x_NoThing) E inferInstance T.g_super sc_x_NoThing rfl rfl rfl (fun _ _ _ _ _ _ _ => pe_joined (.cons pe_str (.cons (pe_fmt (pe_var (i := 1) rfl (Or.inl rfl))) (.cons pe_str .nil)))) (fun _ _ _ _ _ _ _ => rfl) (fun _ _ _ _ _ _ _ => ⟨_, rfl⟩) (fun _ _ _ _ _ _ _ => pss_cons (ps_ost (pe_var (i := 0) rfl (Or.inl rfl)) (pe_var (i := 1) rfl (Or.inl rfl))) (pss_cons (ps_ost (pe_var (i := 0) rfl (Or.inl rfl)) (pe_var (i := 2) rfl (Or.inl rfl))) (pss_nil))), exi_binds E (fun _ _ _ _ _ _ _ us hl => match us, hl with | [_, _, _], _ => rfl), rfl, (tx_f3 (by decide) (by decide))⟩, by decide, by decide, by decide, fun f hf => T.pok.fld ("NoThing", f) ((by decide : ∀ f ∈ (["what", "index"] : List String), ("NoThing", f) ∈ pg.fld) f hf), T.g_NoThing⟩
theorem fn_thing_at (T : Txt K mg) {f : Addr} {fd : FuncData} (F : FunD K "thing_at" "thing_at" (defArgs s_thing_at) (defBody s_thing_at) (defScope s_thing_at) [] [] f fd) : FnOk P w K mg base (L2.CX P w) 3 f fd ps_thing_at (spI K F_thing_at ps_thing_at.length) := by
  have h_x_NoThing := ok_x_NoThing (P := P) (w := w) (base := base) T
  exact fn_ok finR_ok (N := N_thing_at) (ps := ps_thing_at) (k := 2) F sc_thing_at (fun cdv A outer s H E hr tk hp => bi_cons (si_if (ti_not (ti_chain op_le os_le op_lt os_lt (ei_int) (ei_var 2) (ei_len T.g_len (ai_cons (ei_var 0) (ai_nil))))) (bi_one (si_rs h_x_NoThing hr rfl tk (by decide) (ai_cons (ei_var 1) (ai_cons (ei_var 2) (ai_nil))))) (bi_nil)) (bi_one (si_ret (ei_ix (ei_var 0) (ei_var 2)))))
theorem ok_thing_at (T : Txt K mg) : Has P w K mg base 3 "thing_at" (He.ga K "thing_at") ps_thing_at F_thing_at := by
  obtain ⟨fd, F⟩ := T.d_thing_at
  exact ⟨⟨fd, fn_thing_at T F, F.bindsN (fun _ _ _ _ _ _ us hl => match us, hl with | [_, _, _], _ => rfl)⟩, T.g_thing_at, F.kp⟩
theorem fn_kind_at (T : Txt K mg) {f : Addr} {fd : FuncData} (F : FunD K "kind_at" "kind_at" (defArgs s_kind_at) (defBody s_kind_at) (defScope s_kind_at) [] [] f fd) : FnOk P w K mg base (L2.CX P w) 4 f fd ps_kind_at (spI K F_kind_at ps_kind_at.length) := by
  have h_thing_at := ok_thing_at (P := P) (w := w) (base := base) T
  exact fn_ok finR_ok (N := N_kind_at) (ps := ps_kind_at) (k := 3) F sc_kind_at (fun cdv A outer s H E hr tk hp => bi_one (si_ret (ei_f h_thing_at hr tk (by decide) (ai_cons (ei_fld T.pok (ei_var 0)) (ai_cons (ei_str) (ai_cons (ei_var 1) (ai_nil)))) (axn_cons (axn_cons (axn_cons (axn_nil)))))))
theorem ok_kind_at (T : Txt K mg) : Has P w K mg base 4 "kind_at" (He.ga K "kind_at") ps_kind_at F_kind_at := by
  obtain ⟨fd, F⟩ := T.d_kind_at
  exact ⟨⟨fd, fn_kind_at T F, F.bindsN (fun _ _ _ _ _ _ us hl => match us, hl with | [_, _], _ => rfl)⟩, T.g_kind_at, F.kp⟩
theorem fn_fits (T : Txt K mg) {f : Addr} {fd : FuncData} (F : FunD K "fits" "fits" (defArgs s_fits) (defBody s_fits) (defScope s_fits) [] [] f fd) : FnOk P w K mg base (L2.CX P w) 5 f fd ps_fits (spI K F_fits ps_fits.length) := by
  have h_kind_at := ok_kind_at (P := P) (w := w) (base := base) T
  have h_is_clean := ok_is_clean (P := P) (w := w) (base := base) T
  exact fn_ok finR_ok (N := N_fits) (ps := ps_fits) (k := 4) F sc_fits (fun cdv A outer s H E hr tk hp => bi_cons (si_set 3 (sc_fits).nd (ei_f h_kind_at hr tk (by decide) (ai_cons (ei_var 0) (ai_cons (ei_var 2) (ai_nil))) (axn_cons (axn_cons (axn_nil))))) (bi_cons (si_if (ti_not (ti_val (ei_f h_is_clean hr tk (by decide) (ai_cons (ei_var 1) (ai_nil)) (axn_cons (axn_nil))))) (bi_one (si_ret (ei_bl))) (bi_nil)) (bi_cons (si_if (ti_w (tw_and (ti_cmp op_le os_le (ei_fld T.pok (ei_var 3)) (ei_ix (ei_var 1) (ei_int))) (tw_and1 (ti_cmp op_le os_le (ei_fld T.pok (ei_var 3)) (ei_ix (ei_var 1) (ei_int)))))) (bi_one (si_ret (ei_bl))) (bi_nil)) (bi_one (si_ret (ei_and (ei_fld T.pok (ei_var 3)) (ei_and (ei_cmp op_le os_le (ei_fld T.pok (ei_var 3)) (ei_ix (ei_var 1) (ei_int))) (ei_and1 (ei_cmp op_le os_le (ei_fld T.pok (ei_var 3)) (ei_ix (ei_var 1) (ei_int)))))))))))
theorem ok_fits (T : Txt K mg) : Has P w K mg base 5 "fits" (He.ga K "fits") ps_fits F_fits := by
  obtain ⟨fd, F⟩ := T.d_fits
  exact ⟨⟨fd, fn_fits T F, F.bindsN (fun _ _ _ _ _ _ us hl => match us, hl with | [_, _, _], _ => rfl)⟩, T.g_fits, F.kp⟩
theorem ok_fits_k0 (T : Txt K mg) : HasG P w K mg base 5 "fits" (He.ga K "fits") ps_fits 1 ["kind", "part"] (fun xs ys => perm [0, 2, 1] (xs ++ ys)) F_fits := by
  obtain ⟨fd, F⟩ := T.d_fits
  exact ⟨⟨fd, fn_fits T F, kb2 F 1 ["kind", "part"] [0, 2, 1] (fun _ _ _ _ _ _ us ws h1 h2 => match us, ws, h1, h2 with | [_], [_, _], _, _ => rfl)⟩, T.g_fits, F.kp⟩
theorem fn_hot__law_fields (T : Txt K mg) {f : Addr} {fd : FuncData} (F : FunD K "_law_fields" "_law_fields" (defArgs s_hot__law_fields) (defBody s_hot__law_fields) (defScope s_hot__law_fields) [] [] f fd) : HotOk P w K mg base 1 f fd ps_hot__law_fields F_hot__law_fields := by
  exact hot_ok (fun _ => finR_ok) (N := N_hot__law_fields) (ps := ps_hot__law_fields) (k := 0) F sc_hot__law_fields (fun q cdv A outer s H p hr hx => bi_cons (si_if (ti_val (ei_isx T.pok hx T.g_isinstance (ai_cons (ei_var 0) (ai_cons (ei_tup (ai_cons (ei_own "NoCut" T.g_NoCut) (ai_cons (ei_own "NoName" T.g_NoName) (ai_cons (ei_own "OutOfRange" T.g_OutOfRange) (ai_nil))))) (ai_nil))))) (bi_one (si_ret (ei_tup (ai_cons (ei_str) (ai_nil))))) (bi_nil)) (bi_cons (si_set 1 (sc_hot__law_fields).nd (ei_lst (ai_cons (ei_isx T.pok hx T.g_isinstance (ai_cons (ei_var 0) (ai_cons (ei_own "NoThing" T.g_NoThing) (ai_nil)))) (ai_cons (ei_isx T.pok hx T.g_isinstance (ai_cons (ei_var 0) (ai_cons (ei_own "NoKeep" T.g_NoKeep) (ai_nil)))) (ai_nil))))) (bi_cons (si_if (ti_w (tw_or (ti_cmp (op_eq2 (L2H_units hr)) os_eq (ei_ix (ei_var 1) (ei_int)) (ei_ix (ei_var 1) (ei_int))) (tw_or1 (ti_not (ti_val (ei_isx T.pok hx T.g_isinstance (ai_cons (ei_var 0) (ai_cons (ei_tyVE T.g_ValueError) (ai_nil))))))))) (bi_one (si_ret (ei_tup (ai_cons (ei_str) (ai_nil))))) (bi_nil)) (bi_cons (si_if (ti_val (ei_ix (ei_var 1) (ei_int))) (bi_one (si_ret (ei_tup (ai_cons (ei_str) (ai_cons (ei_xf T.pok hx (ei_var 0)) (ai_cons (ei_xf T.pok hx (ei_var 0)) (ai_nil))))))) (bi_nil)) (bi_one (si_ret (ei_tup (ai_cons (ei_str) (ai_nil)))))))))
theorem ok_hot__law_fields (T : Txt K mg) : HasX P w K mg base 1 "_law_fields" (He.ga K "_law_fields") ps_hot__law_fields F_hot__law_fields := by
  obtain ⟨fd, F⟩ := T.d_hot__law_fields
  exact ⟨⟨fd, fn_hot__law_fields T F, F.bindsN (fun _ _ _ _ _ _ us hl => match us, hl with | [_], _ => rfl)⟩, T.g__law_fields, F.kp⟩
theorem fn__law_fit (T : Txt K mg) {f : Addr} {fd : FuncData} (F : FunD K "_law_fit" "_law_fit" (defArgs s__law_fit) (defBody s__law_fit) (defScope s__law_fit) [] [] f fd) : FnOk P w K mg base (L2.CX P w) 6 f fd ps__law_fit (spI K F__law_fit ps__law_fit.length) := by
  have h_fits := ok_fits (P := P) (w := w) (base := base) T
  have h_fits_k0 := ok_fits_k0 (P := P) (w := w) (base := base) T
  have h_hot__law_fields := ok_hot__law_fields (P := P) (w := w) (base := base) T
  exact fn_ok finR_ok (N := N__law_fit) (ps := ps__law_fit) (k := 5) F sc__law_fit (fun cdv A outer s H E hr tk hp => bi_cons (si_try rfl rfl (sc__law_fit).nd rfl rfl ⟨rfl, by decide, .inl T.g_CutError⟩ tk (subB_ok T.sb_CutError) (fun W pn xe tk hp => bi_one (si_if (ti_cmp (op_eq2 hr.units) os_eq (ei_var 2) (ei_int)) (bi_one (si_set 4 (sc__law_fit).nd (ei_fg (h_fits_k0) hr tk (by decide) (fun xs ys h1 h2 => match xs, ys, h1, h2 with | [_], [_, _], _, _ => rfl) (ai_cons (ei_var 0) (ai_nil)) (ki_cons (ei_var 2) (ki_cons (ei_var 1) (ki_nil))) (axn_cons (axn_nil)) (axn_cons (axn_cons (axn_nil)))))) (bi_one (si_set 4 (sc__law_fit).nd (ei_f h_fits hr tk (by decide) (ai_cons (ei_var 0) (ai_cons (ei_var 1) (ai_cons (ei_var 2) (ai_nil)))) (axn_cons (axn_cons (axn_cons (axn_nil))))))))) (fun q a pn hx => bi_one (si_ret (ei_x h_hot__law_fields (room_suite hr) hx (by decide) (ai_cons (ei_var 3) (ai_nil)) (axn_cons (axn_nil)))))) (bi_one (si_ret (ei_tup (ai_cons (ei_str) (ai_cons (ei_var 4) (ai_nil)))))))
theorem ok__law_fit (T : Txt K mg) : Has P w K mg base 6 "_law_fit" (He.ga K "_law_fit") ps__law_fit F__law_fit := by
  obtain ⟨fd, F⟩ := T.d__law_fit
  exact ⟨⟨fd, fn__law_fit T F, F.bindsN (fun _ _ _ _ _ _ us hl => match us, hl with | [_, _, _], _ => rfl)⟩, T.g__law_fit, F.kp⟩
theorem fn__law_keeping (T : Txt K mg) {f : Addr} {fd : FuncData} (F : FunD K "_law_keeping" "_law_keeping" (defArgs s__law_keeping) (defBody s__law_keeping) (defScope s__law_keeping) [] [] f fd) : FnOk P w K mg base (L2.CX P w) 1 f fd ps__law_keeping (spI K F__law_keeping ps__law_keeping.length) := by
  exact fn_ok finR_ok (N := N__law_keeping) (ps := ps__law_keeping) (k := 0) F sc__law_keeping (fun cdv A outer s H E hr tk hp => bi_cons (si_if (ti_w (tw_or (ti_cmp op_lt os_lt (ei_var 2) (ei_int)) (tw_or1 (ti_cmp op_ge os_ge (ei_var 2) (ei_len T.g_len (ai_cons (ei_ix (ei_var 0) (ei_int)) (ai_nil))))))) (bi_one (si_ret (ei_tup (ai_cons (ei_str) (ai_cons (ei_str) (ai_cons (ei_var 2) (ai_nil))))))) (bi_nil)) (bi_cons (si_set 3 (sc__law_keeping).nd (ei_ix (ei_ix (ei_var 0) (ei_int)) (ei_var 2))) (bi_cons (si_if (ti_w (tw_or (ti_cmp op_ge os_ge (ei_op op_addD os_add (ei_ix (ei_var 1) (ei_int)) (ei_int)) (ei_ix (ei_var 0) (ei_int))) (tw_or1 (ti_cmp op_gt os_gt (ei_len T.g_len (ai_cons (ei_var 1) (ai_nil))) (ei_int))))) (bi_one (si_ret (ei_tup (ai_cons (ei_str) (ai_nil))))) (bi_nil)) (bi_cons (si_if (ti_w (tw_or (ti_cmp op_gt os_gt (ei_ix (ei_var 3) (ei_int)) (ei_ix (ei_var 1) (ei_int))) (tw_or1 (ti_cmp op_gt os_gt (ei_ix (ei_var 3) (ei_int)) (ei_ix (ei_var 1) (ei_int)))))) (bi_one (si_ret (ei_tup (ai_cons (ei_str) (ai_nil))))) (bi_nil)) (bi_cons (si_set 4 (sc__law_keeping).nd (ei_if (ti_cmp op_isN os_isN (ei_ix (ei_var 0) (ei_int)) (ei_non)) (ei_un un_neg us_neg (ei_int)) (ei_ix (ei_var 0) (ei_int)))) (bi_one (si_ret (ei_tup (ai_cons (ei_str) (ai_cons (ei_tup (ai_cons (ei_op op_addD os_add (ei_ix (ei_var 1) (ei_int)) (ei_int)) (ai_cons (ei_ix (ei_var 3) (ei_int)) (ai_cons (ei_ix (ei_var 3) (ei_int)) (ai_cons (ei_var 4) (ai_cons (ei_int) (ai_nil))))))) (ai_nil)))))))))))
theorem ok__law_keeping (T : Txt K mg) : Has P w K mg base 1 "_law_keeping" (He.ga K "_law_keeping") ps__law_keeping F__law_keeping := by
  obtain ⟨fd, F⟩ := T.d__law_keeping
  exact ⟨⟨fd, fn__law_keeping T F, F.bindsN (fun _ _ _ _ _ _ us hl => match us, hl with | [_, _, _], _ => rfl)⟩, T.g__law_keeping, F.kp⟩
theorem fn_rest_at (T : Txt K mg) {f : Addr} {fd : FuncData} (F : FunD K "rest_at" "rest_at" (defArgs s_rest_at) (defBody s_rest_at) (defScope s_rest_at) [] [] f fd) : FnOk P w K mg base (L2.CX P w) 4 f fd ps_rest_at (spI K F_rest_at ps_rest_at.length) := by
  have h_thing_at := ok_thing_at (P := P) (w := w) (base := base) T
  exact fn_ok finR_ok (N := N_rest_at) (ps := ps_rest_at) (k := 3) F sc_rest_at (fun cdv A outer s H E hr tk hp => bi_one (si_ret (ei_f h_thing_at hr tk (by decide) (ai_cons (ei_fld T.pok (ei_var 0)) (ai_cons (ei_str) (ai_cons (ei_var 1) (ai_nil)))) (axn_cons (axn_cons (axn_cons (axn_nil)))))))
theorem ok_rest_at (T : Txt K mg) : Has P w K mg base 4 "rest_at" (He.ga K "rest_at") ps_rest_at F_rest_at := by
  obtain ⟨fd, F⟩ := T.d_rest_at
  exact ⟨⟨fd, fn_rest_at T F, F.bindsN (fun _ _ _ _ _ _ us hl => match us, hl with | [_, _], _ => rfl)⟩, T.g_rest_at, F.kp⟩
theorem fn_holds_rest (T : Txt K mg) {f : Addr} {fd : FuncData} (F : FunD K "holds_rest" "holds_rest" (defArgs s_holds_rest) (defBody s_holds_rest) (defScope s_holds_rest) [] [] f fd) : FnOk P w K mg base (L2.CX P w) 2 f fd ps_holds_rest (spI K F_holds_rest ps_holds_rest.length) := by
  have h_is_clean := ok_is_clean (P := P) (w := w) (base := base) T
  exact fn_ok finR_ok (N := N_holds_rest) (ps := ps_holds_rest) (k := 1) F sc_holds_rest (fun cdv A outer s H E hr tk hp => bi_one (si_ret (ei_and (ei_f h_is_clean hr tk (by decide) (ai_cons (ei_var 0) (ai_nil)) (axn_cons (axn_nil))) (ei_and (ei_cmp op_le os_le (ei_fld T.pok (ei_var 1)) (ei_ix (ei_var 0) (ei_int))) (ei_and1 (ei_cmp op_le os_le (ei_fld T.pok (ei_var 1)) (ei_ix (ei_var 0) (ei_int))))))))
theorem ok_holds_rest (T : Txt K mg) : Has P w K mg base 2 "holds_rest" (He.ga K "holds_rest") ps_holds_rest F_holds_rest := by
  obtain ⟨fd, F⟩ := T.d_holds_rest
  exact ⟨⟨fd, fn_holds_rest T F, F.bindsN (fun _ _ _ _ _ _ us hl => match us, hl with | [_, _], _ => rfl)⟩, T.g_holds_rest, F.kp⟩
theorem ok_x_NoKeep (T : Txt K mg) : HasE0 P w K mg base "NoKeep" := by
  obtain ⟨fd, E⟩ := T.x_NoKeep
  exact ⟨⟨_, fd, N_x_NoKeep, ps_x_NoKeep, _, E.oex, E.iC, E.tI, exi_fn (k := 0) (N := N_x_NoKeep) (ps := ps_x_NoKeep) E inferInstance T.g_super sc_x_NoKeep rfl rfl rfl (fun _ _ _ _ _ _ _ => pe_str) (fun _ _ _ _ _ _ _ => rfl) (fun _ _ _ _ _ _ _ => ⟨_, rfl⟩) (fun _ _ _ _ _ _ _ => pss_nil), exi_binds E (fun _ _ _ _ _ _ _ us hl => match us, hl with | [_], _ => rfl), rfl, tx_c⟩, T.g_NoKeep⟩
theorem fn_day_at (T : Txt K mg) {f : Addr} {fd : FuncData} (F : FunD K "day_at" "day_at" (defArgs s_day_at) (defBody s_day_at) (defScope s_day_at) [] [] f fd) : FnOk P w K mg base (L2.CX P w) 4 f fd ps_day_at (spI K F_day_at ps_day_at.length) := by
  have h_thing_at := ok_thing_at (P := P) (w := w) (base := base) T
  exact fn_ok finR_ok (N := N_day_at) (ps := ps_day_at) (k := 3) F sc_day_at (fun cdv A outer s H E hr tk hp => bi_one (si_ret (ei_f h_thing_at hr tk (by decide) (ai_cons (ei_fld T.pok (ei_var 0)) (ai_cons (ei_str) (ai_cons (ei_var 1) (ai_nil)))) (axn_cons (axn_cons (axn_cons (axn_nil)))))))
theorem ok_day_at (T : Txt K mg) : Has P w K mg base 4 "day_at" (He.ga K "day_at") ps_day_at F_day_at := by
  obtain ⟨fd, F⟩ := T.d_day_at
  exact ⟨⟨fd, fn_day_at T F, F.bindsN (fun _ _ _ _ _ _ us hl => match us, hl with | [_, _], _ => rfl)⟩, T.g_day_at, F.kp⟩
theorem fn_part_from (T : Txt K mg) {f : Addr} {fd : FuncData} (F : FunD K "part_from" "part_from" (defArgs s_part_from) (defBody s_part_from) (defScope s_part_from) [] [] f fd) : FnOk P w K mg base (L2.CX P w) 1 f fd ps_part_from (spI K F_part_from ps_part_from.length) := by
  exact fn_ok finR_ok (N := N_part_from) (ps := ps_part_from) (k := 0) F sc_part_from (fun cdv A outer s H E hr tk hp => bi_cons (si_set 6 (sc_part_from).nd (ei_lstL (ai_cons (ei_var 0) (ai_cons (ei_var 1) (ai_cons (ei_var 2) (ai_cons (ei_var 3) (ai_cons (ei_var 4) (ai_nil)))))))) (bi_cons (si_for (vs := [7, 8]) hp rfl (ii_any (ei_var 5)) (gi_tup 2 rfl (gsi_cons (gi_name 7 (sc_part_from).nd) (gsi_cons (gi_name 8 (sc_part_from).nd) (gsi_nil))) (len_cons (len_cons (len_nil)))) (bi_cons (si_app 6 (ei_var 6) (ei_var 7)) (bi_one (si_app 6 (ei_var 6) (ei_var 8))))) (bi_frz 6 (bi_one (si_ret (ei_tupc T.g_tuple (ai_cons (ei_var 6) (ai_nil))))))))
theorem ok_part_from (T : Txt K mg) : Has P w K mg base 1 "part_from" (He.ga K "part_from") ps_part_from F_part_from := by
  obtain ⟨fd, F⟩ := T.d_part_from
  exact ⟨⟨fd, fn_part_from T F, F.bindsN (fun _ _ _ _ _ _ us hl => match us, hl with | [_, _, _, _, _, _], _ => rfl)⟩, T.g_part_from, F.kp⟩
theorem fn_first_left (T : Txt K mg) {f : Addr} {fd : FuncData} (F : FunD K "first_left" "first_left" (defArgs s_first_left) (defBody s_first_left) (defScope s_first_left) [] [] f fd) : FnOk P w K mg base (L2.CX P w) 1 f fd ps_first_left (spI K F_first_left ps_first_left.length) := by
  exact fn_ok finR_ok (N := N_first_left) (ps := ps_first_left) (k := 0) F sc_first_left (fun cdv A outer s H E hr tk hp => bi_one (si_ret (ei_if (ti_cmp op_isN os_isN (ei_fld T.pok (ei_var 0)) (ei_non)) (ei_un un_neg us_neg (ei_int)) (ei_fld T.pok (ei_var 0)))))
theorem ok_first_left (T : Txt K mg) : Has P w K mg base 1 "first_left" (He.ga K "first_left") ps_first_left F_first_left := by
  obtain ⟨fd, F⟩ := T.d_first_left
  exact ⟨⟨fd, fn_first_left T F, F.bindsN (fun _ _ _ _ _ _ us hl => match us, hl with | [_], _ => rfl)⟩, T.g_first_left, F.kp⟩
theorem fn_rest_part (T : Txt K mg) {f : Addr} {fd : FuncData} (F : FunD K "rest_part" "rest_part" (defArgs s_rest_part) (defBody s_rest_part) (defScope s_rest_part) [] [] f fd) : FnOk P w K mg base (L2.CX P w) 5 f fd ps_rest_part (spI K F_rest_part ps_rest_part.length) := by
  have h_rest_at := ok_rest_at (P := P) (w := w) (base := base) T
  have h_day_at := ok_day_at (P := P) (w := w) (base := base) T
  have h_part_from := ok_part_from (P := P) (w := w) (base := base) T
  have h_first_left := ok_first_left (P := P) (w := w) (base := base) T
  exact fn_ok finR_ok (N := N_rest_part) (ps := ps_rest_part) (k := 4) F sc_rest_part (fun cdv A outer s H E hr tk hp => bi_cons (si_set 3 (sc_rest_part).nd (ei_f h_rest_at hr tk (by decide) (ai_cons (ei_var 0) (ai_cons (ei_var 1) (ai_nil))) (axn_cons (axn_cons (axn_nil))))) (bi_cons (si_drop (ei_f h_day_at hr tk (by decide) (ai_cons (ei_var 0) (ai_cons (ei_var 2) (ai_nil))) (axn_cons (axn_cons (axn_nil))))) (bi_one (si_ret (ei_f h_part_from hr tk (by decide) (ai_cons (ei_var 2) (ai_cons (ei_fld T.pok (ei_var 3)) (ai_cons (ei_fld T.pok (ei_var 3)) (ai_cons (ei_f h_first_left hr tk (by decide) (ai_cons (ei_var 0) (ai_nil)) (axn_cons (axn_nil))) (ai_cons (ei_int) (ai_cons (ei_lst (ai_nil)) (ai_nil))))))) (axn_cons (axn_cons (axn_cons (axn_cons (axn_cons (axn_cons (axn_nil))))))))))))
theorem ok_rest_part (T : Txt K mg) : Has P w K mg base 5 "rest_part" (He.ga K "rest_part") ps_rest_part F_rest_part := by
  obtain ⟨fd, F⟩ := T.d_rest_part
  exact ⟨⟨fd, fn_rest_part T F, F.bindsN (fun _ _ _ _ _ _ us hl => match us, hl with | [_, _, _], _ => rfl)⟩, T.g_rest_part, F.kp⟩
theorem fn_kept_part (T : Txt K mg) {f : Addr} {fd : FuncData} (F : FunD K "kept_part" "kept_part" (defArgs s_kept_part) (defBody s_kept_part) (defScope s_kept_part) [] [] f fd) : FnOk P w K mg base (L2.CX P w) 6 f fd ps_kept_part (spI K F_kept_part ps_kept_part.length) := by
  have h_rest_at := ok_rest_at (P := P) (w := w) (base := base) T
  have h_holds_rest := ok_holds_rest (P := P) (w := w) (base := base) T
  have h_x_NoKeep := ok_x_NoKeep (P := P) (w := w) (base := base) T
  have h_rest_part := ok_rest_part (P := P) (w := w) (base := base) T
  exact fn_ok finR_ok (N := N_kept_part) (ps := ps_kept_part) (k := 5) F sc_kept_part (fun cdv A outer s H E hr tk hp => bi_cons (si_set 3 (sc_kept_part).nd (ei_f h_rest_at hr tk (by decide) (ai_cons (ei_var 0) (ai_cons (ei_var 2) (ai_nil))) (axn_cons (axn_cons (axn_nil))))) (bi_cons (si_set 4 (sc_kept_part).nd (ei_op op_addD os_add (ei_ix (ei_var 1) (ei_int)) (ei_int))) (bi_cons (si_if (ti_w (tw_or (ti_cmp op_ge os_ge (ei_var 4) (ei_len T.g_len (ai_cons (ei_fld T.pok (ei_var 0)) (ai_nil)))) (tw_or1 (ti_not (ti_val (ei_f h_holds_rest hr tk (by decide) (ai_cons (ei_var 1) (ai_cons (ei_var 3) (ai_nil))) (axn_cons (axn_cons (axn_nil))))))))) (bi_one (si_rs0 h_x_NoKeep hr rfl tk (by decide))) (bi_nil)) (bi_one (si_ret (ei_f h_rest_part hr tk (by decide) (ai_cons (ei_var 0) (ai_cons (ei_var 2) (ai_cons (ei_var 4) (ai_nil)))) (axn_cons (axn_cons (axn_cons (axn_nil))))))))))
theorem ok_kept_part (T : Txt K mg) : Has P w K mg base 6 "kept_part" (He.ga K "kept_part") ps_kept_part F_kept_part := by
  obtain ⟨fd, F⟩ := T.d_kept_part
  exact ⟨⟨fd, fn_kept_part T F, F.bindsN (fun _ _ _ _ _ _ us hl => match us, hl with | [_, _, _], _ => rfl)⟩, T.g_kept_part, F.kp⟩
theorem ok_kept_part_k0 (T : Txt K mg) : HasG P w K mg base 6 "kept_part" (He.ga K "kept_part") ps_kept_part 1 ["rest", "part"] (fun xs ys => perm [0, 2, 1] (xs ++ ys)) F_kept_part := by
  obtain ⟨fd, F⟩ := T.d_kept_part
  exact ⟨⟨fd, fn_kept_part T F, kb2 F 1 ["rest", "part"] [0, 2, 1] (fun _ _ _ _ _ _ us ws h1 h2 => match us, ws, h1, h2 with | [_], [_, _], _, _ => rfl)⟩, T.g_kept_part, F.kp⟩
theorem fn__law_kept (T : Txt K mg) {f : Addr} {fd : FuncData} (F : FunD K "_law_kept" "_law_kept" (defArgs s__law_kept) (defBody s__law_kept) (defScope s__law_kept) [] [] f fd) : FnOk P w K mg base (L2.CX P w) 7 f fd ps__law_kept (spI K F__law_kept ps__law_kept.length) := by
  have h_kept_part := ok_kept_part (P := P) (w := w) (base := base) T
  have h_kept_part_k0 := ok_kept_part_k0 (P := P) (w := w) (base := base) T
  have h_hot__law_fields := ok_hot__law_fields (P := P) (w := w) (base := base) T
  exact fn_ok finR_ok (N := N__law_kept) (ps := ps__law_kept) (k := 6) F sc__law_kept (fun cdv A outer s H E hr tk hp => bi_cons (si_try rfl rfl (sc__law_kept).nd rfl rfl ⟨rfl, by decide, .inl T.g_CutError⟩ tk (subB_ok T.sb_CutError) (fun W pn xe tk hp => bi_one (si_if (ti_cmp (op_eq2 hr.units) os_eq (ei_var 2) (ei_int)) (bi_one (si_set 4 (sc__law_kept).nd (ei_fg (h_kept_part_k0) hr tk (by decide) (fun xs ys h1 h2 => match xs, ys, h1, h2 with | [_], [_, _], _, _ => rfl) (ai_cons (ei_var 0) (ai_nil)) (ki_cons (ei_var 2) (ki_cons (ei_var 1) (ki_nil))) (axn_cons (axn_nil)) (axn_cons (axn_cons (axn_nil)))))) (bi_one (si_set 4 (sc__law_kept).nd (ei_f h_kept_part hr tk (by decide) (ai_cons (ei_var 0) (ai_cons (ei_var 1) (ai_cons (ei_var 2) (ai_nil)))) (axn_cons (axn_cons (axn_cons (axn_nil))))))))) (fun q a pn hx => bi_one (si_ret (ei_x h_hot__law_fields (room_suite hr) hx (by decide) (ai_cons (ei_var 3) (ai_nil)) (axn_cons (axn_nil)))))) (bi_one (si_ret (ei_tup (ai_cons (ei_str) (ai_cons (ei_var 4) (ai_nil)))))))
theorem ok__law_kept (T : Txt K mg) : Has P w K mg base 7 "_law_kept" (He.ga K "_law_kept") ps__law_kept F__law_kept := by
  obtain ⟨fd, F⟩ := T.d__law_kept
  exact ⟨⟨fd, fn__law_kept T F, F.bindsN (fun _ _ _ _ _ _ us hl => match us, hl with | [_, _, _], _ => rfl)⟩, T.g__law_kept, F.kp⟩
theorem fn_law (T : Txt K mg) {f : Addr} {fd : FuncData} (F : FunD K "law" "law" (defArgs s_law) (defBody s_law) (defScope s_law) [] [] f fd) : FnOk P w K mg base (L2.CX P w) 9 f fd ps_law (spI K F_law ps_law.length) := by
  have h__law_pool := ok__law_pool (P := P) (w := w) (base := base) T
  have h__law_drawn := ok__law_drawn (P := P) (w := w) (base := base) T
  have h__law_built := ok__law_built (P := P) (w := w) (base := base) T
  have h__law_part := ok__law_part (P := P) (w := w) (base := base) T
  have h__law_same := ok__law_same (P := P) (w := w) (base := base) T 8
  have h_is_clean := ok_is_clean (P := P) (w := w) (base := base) T
  have h__law_fitting := ok__law_fitting (P := P) (w := w) (base := base) T
  have h__law_fit := ok__law_fit (P := P) (w := w) (base := base) T
  have h__law_keeping := ok__law_keeping (P := P) (w := w) (base := base) T
  have h__law_kept := ok__law_kept (P := P) (w := w) (base := base) T
  exact fn_ok finR_ok (N := N_law) (ps := ps_law) (k := 8) F sc_law (fun cdv A outer s H E hr tk hp => bi_cons (si_set 1 (sc_law).nd (ei_f h__law_pool hr tk (by decide) (ai_cons (ei_var 0) (ai_nil)) (axn_cons (axn_nil)))) (bi_cons (si_set 2 (sc_law).nd (ei_f h__law_drawn hr tk (by decide) (ai_cons (ei_var 1) (ai_nil)) (axn_cons (axn_nil)))) (bi_cons (si_set 3 (sc_law).nd (ei_f h__law_built hr tk (by decide) (ai_cons (ei_var 2) (ai_nil)) (axn_cons (axn_nil)))) (bi_cons (si_for (vs := [4]) hp rfl (ii_rng1 rfl T.g_range (ai_cons (ei_int) (ai_nil))) (gi_name 4 (sc_law).nd) (bi_cons (si_set 5 (sc_law).nd (ei_f h__law_part hr tk (by decide) (ai_cons (ei_var 1) (ai_cons (ei_var 2) (ai_nil))) (axn_cons (axn_cons (axn_nil))))) (bi_cons (si_if (ti_not (ti_val (ei_f h__law_same hr tk (by decide) (ai_cons (ei_f h_is_clean hr tk (by decide) (ai_cons (ei_var 5) (ai_nil)) (axn_cons (axn_nil))) (ai_cons (ei_cmp (op_eq2 hr.units) os_eq (ei_len T.g_len (ai_cons (ei_var 5) (ai_nil))) (ei_int)) (ai_nil))) (axn_cons (axn_cons (axn_nil)))))) (bi_one (si_ret (ei_bl))) (bi_nil)) (bi_one (si_for (vs := [6]) hp rfl (ii_any (ei_op op_addD os_add (ei_lrg rfl T.g_list T.g_range (ei_un un_neg us_neg (ei_int)) (ei_int)) (ei_lst (ai_cons (ei_op op_pow os_pow (ei_int) (ei_int)) (ai_nil))))) (gi_name 6 (sc_law).nd) (bi_cons (si_set 7 (sc_law).nd (ei_f h__law_fitting hr tk (by decide) (ai_cons (ei_var 2) (ai_cons (ei_var 5) (ai_cons (ei_var 6) (ai_nil)))) (axn_cons (axn_cons (axn_cons (axn_nil)))))) (bi_cons (si_if (ti_not (ti_val (ei_f h__law_same hr tk (by decide) (ai_cons (ei_f h__law_fit hr tk (by decide) (ai_cons (ei_var 3) (ai_cons (ei_var 5) (ai_cons (ei_var 6) (ai_nil)))) (axn_cons (axn_cons (axn_cons (axn_nil))))) (ai_cons (ei_var 7) (ai_nil))) (axn_cons (axn_cons (axn_nil)))))) (bi_one (si_ret (ei_bl))) (bi_nil)) (bi_cons (si_set 7 (sc_law).nd (ei_f h__law_keeping hr tk (by decide) (ai_cons (ei_var 2) (ai_cons (ei_var 5) (ai_cons (ei_var 6) (ai_nil)))) (axn_cons (axn_cons (axn_cons (axn_nil)))))) (bi_one (si_if (ti_not (ti_val (ei_f h__law_same hr tk (by decide) (ai_cons (ei_f h__law_kept hr tk (by decide) (ai_cons (ei_var 3) (ai_cons (ei_var 5) (ai_cons (ei_var 6) (ai_nil)))) (axn_cons (axn_cons (axn_cons (axn_nil))))) (ai_cons (ei_var 7) (ai_nil))) (axn_cons (axn_cons (axn_nil)))))) (bi_one (si_ret (ei_bl))) (bi_nil))))))))))) (bi_one (si_ret (ei_bl)))))))
theorem ok_law (T : Txt K mg) : Has P w K mg base 9 "law" (He.ga K "law") ps_law F_law := by
  obtain ⟨fd, F⟩ := T.d_law
  exact ⟨⟨fd, fn_law T F, F.bindsN (fun _ _ _ _ _ _ us hl => match us, hl with | [_], _ => rfl)⟩, T.g_law, F.kp⟩
end
end K08

set_option Elab.async false
set_option linter.all false
set_option maxRecDepth 100000
set_option maxHeartbeats 1000000
/-! G_1 (K08 stands for the law's namespace): the pool, a draw. -/
namespace K08
open Cb Cb.Wm
open PySem (Str)
@[simp] theorem oIx_one (d : D) : oIx (.lst [d]) (.int 0) = some d := rfl
theorem draw_lt (N : Int) {m : Int} (h : 0 < m) : 0 ≤ N % m ∧ N % m < m := ⟨Int.emod_nonneg _ (by omega), Int.emod_lt_of_pos _ h⟩
theorem draw (N m : Int) (st : Sto) (h : 0 < m) (h2 : m < 2 ^ 64) : F__law_draw [.ref 0, .int m] (.lst [.int N] :: st) = .ok (.int (N % m)) (.lst [.int (N / m)] :: st) := by
  refine W_eq (fn_W rfl ?_)
  simp [B__law_draw, List.replicate, oMod_pos _ _ h, oDiv_pos _ _ h h2, ixD, D.gnd]
theorem draw_W {N m : Int} {J : Sto} (h : 0 < m ∧ m < 2 ^ 64) : (F__law_draw [.ref 0, .int m] (.lst [.int N] :: J)).W (fun r s => ∃ q n, 0 ≤ q ∧ q < m ∧ r = .int q ∧ s = .lst [.int n] :: J) NX := by
  rw [draw N m J h.1 h.2, W_ok]
  exact ⟨_, _, (draw_lt N h.1).1, (draw_lt N h.1).2, rfl, rfl⟩
theorem pool (ns : List Int) (hl : ns.length ≤ 63) : ∃ N : Int, F__law_pool [.scr (ns.map D.int)] [] = .ok (.ref 0) [.lst [.int N]] := by
  have hcut : oSl (.scr (ns.map D.int)) none (some 63) = some (.lst (ns.map D.int)) := by
    show some (D.lst (((ns.map D.int).drop 0).take (min 63 (ns.map D.int).length - 0))) = _
    rw [List.drop_zero, List.take_of_length_le (by simp; omega)]
  obtain ⟨r, s, e, N, rfl, rfl⟩ : ∃ r s, F__law_pool [.scr (ns.map D.int)] [] = .ok r s ∧ ∃ N : Int, r = .ref 0 ∧ s = [.lst [.int N]] := by
    refine W_get (fn_W rfl ?_)
    simp [B__law_pool, List.replicate, hcut]
    refine lc_map (st := []) (f := fun i : Int => .int (if i < 0 then -i else i)) (by omega) (fun i hi => ⟨rfl, _, rfl, fun acc => by simp [C__law_pool_0]⟩) ?_
    have hcs : ∃ cs : List Int, (ns.map fun i : Int => D.int (if i < 0 then -i else i)) = cs.map D.int ∧ cs.length = ns.length := ⟨ns.map fun i => if i < 0 then -i else i, by rw [List.map_map]; rfl, by simp⟩
    obtain ⟨cs, hcs, hlc⟩ := hcs
    rw [hcs]
    simp
    refine for_map (I := fun E pre env s => ∃ x, env = E.set 2 x ∧ s = []) ⟨none, rfl, rfl⟩ ?_ ?_
    · rintro pre c post _ _ hx ⟨x, rfl, rfl⟩
      refine ⟨_, rfl, ?_⟩
      simp [L__law_pool_0, oPow]
      refine ⟨fun hge => ?_, fun hge => ?_⟩
      · simp [D.gnds, D.gnd, finL]
      · simp
    · rintro _ _ ⟨x, rfl, rfl⟩
      simp
      refine for_map (I := fun E pre env s => ∃ x n, env = (E.set 2 x).set 3 (some (.int n)) ∧ s = []) ⟨_, _, rfl, rfl⟩ ?_ ?_
      · rintro pre c post _ _ hx ⟨x, n, rfl, rfl⟩
        refine ⟨_, rfl, ?_⟩
        simp [L__law_pool_1, oMul_r n 1000003 (by decide) (by decide)]
      · rintro _ _ ⟨x, n, rfl, rfl⟩
        simp
        refine for_rg (by decide) (I := fun E k env s => ∃ n y, env = (E.set 3 (some (.int n))).set 4 y ∧ s = []) ⟨n, _, rfl, rfl⟩ ?_ ?_
        · rintro k _ _ hk1 hk2 ⟨n, y, rfl, rfl⟩
          refine ⟨_, rfl, ?_⟩
          have hm := draw_lt n (m := 999983) (by decide)
          simp [L__law_pool_2, oMod_pos n 999983 (by decide), oMul_r n (n % 999983 + 48271) (by omega) (by omega)]
        · rintro _ _ ⟨n, y, rfl, rfl⟩
          simp [D.gnds, D.gnd, finL]
  exact ⟨N, e⟩
end K08

set_option Elab.async false
set_option linter.all false
set_option maxRecDepth 100000
set_option maxHeartbeats 1000000
/-! G_2 (K08 stands for the law's namespace): names, ranges, sides, kinds, rests, of any right arguments. -/
namespace K08
open Cb Cb.Run
open PySem (Str)
abbrev letter (c : Nat) : Str := ⟨#[c]⟩
theorem az : (Str.ofString "abcdefghijklmnopqrstuvwxyz").cps.toList = List.range' 97 26 := by decide +kernel
theorem az9 : (Str.ofString "abcdefghijklmnopqrstuvwxyz0123456789").cps.toList = List.range' 97 26 ++ List.range' 48 10 := by decide +kernel
structure NameOk (z : Str) : Prop where
  len : 1 ≤ z.cps.toList.length ∧ z.cps.toList.length ≤ 8
  head : ∀ c ∈ z.cps.toList.head?, 97 ≤ c ∧ c ≤ 122
  all : ∀ c ∈ z.cps.toList, (97 ≤ c ∧ c ≤ 122) ∨ (48 ≤ c ∧ c ≤ 57)
theorem in_az {c : Nat} (h : 97 ≤ c ∧ c ≤ 122) : oNotIn (.str (letter c)) (.str (Str.ofString "abcdefghijklmnopqrstuvwxyz")) = some (.bl false) := by
  simp only [oNotIn, isInD, az, Option.map_some, Option.some.injEq, D.bl.injEq]
  simp
  omega
theorem in_az9 {c : Nat} (h : (97 ≤ c ∧ c ≤ 122) ∨ (48 ≤ c ∧ c ≤ 57)) : oNotIn (.str (letter c)) (.str (Str.ofString "abcdefghijklmnopqrstuvwxyz0123456789")) = some (.bl false) := by
  simp only [oNotIn, isInD, az9, Option.map_some, Option.some.injEq, D.bl.injEq]
  simp
  omega
theorem is_name (z : Str) (h : NameOk z) (st : Sto) : F_is_name [.str z] st = .ok (.bl true) st := by
  obtain ⟨⟨l⟩⟩ := z
  obtain ⟨⟨h1, h2⟩, h3, h4⟩ := h
  cases l with
  | nil => simp at h1
  | cons c r =>
    dsimp only at h1 h2 h3 h4
    have hc := h3 c (by simp)
    have hr : r.length ≤ 7 := by simpa using h2
    have h5 : cLen [.str ⟨⟨c :: r⟩⟩] = some (.int ((r.length : Int) + 1)) := by simp [cLen, PySem.Str.length]; omega
    have h6 : oIx (.str ⟨⟨c :: r⟩⟩) (.int 0) = some (.str (letter c)) := by
      have hz : (⟨⟨c :: r⟩⟩ : Str).length ≤ 1000000 := by simp [PySem.Str.length]; omega
      simp only [oIx, hz, if_true]
      simp [ixD]
    have f1 := forL_inv (g := gName 1) (b := L_is_name_0) (ds := (c :: r).map fun c => D.str ⟨#[c]⟩) (I := fun _ env s => ∃ x, env = [some (.str ⟨⟨c :: r⟩⟩), x] ∧ s = st) (fun i d env s hd hI => by
      obtain ⟨x, rfl, rfl⟩ := hI
      obtain ⟨a, ha, rfl⟩ := List.mem_map.mp (List.mem_of_getElem? hd)
      have e : L_is_name_0 [some (.str ⟨⟨c :: r⟩⟩), some (.str (letter a))] s = .ok (.nx [some (.str ⟨⟨c :: r⟩⟩), some (.str (letter a))]) s := by
        simp [L_is_name_0, in_az9 (h4 a (by simpa using ha))]
      exact ⟨_, _, _, rfl, e, _, rfl, rfl⟩) (env := [some (.str ⟨⟨c :: r⟩⟩), none]) (st := st) ⟨none, rfl, rfl⟩
    obtain ⟨env, st', e1, x, rfl, rfl⟩ := f1
    have k1 : (1 : Int) ≤ (r.length : Int) + 1 := by omega
    have k2 : (r.length : Int) + 1 ≤ 8 := by omega
    simp only [List.map_cons] at e1
    simp [F_is_name, B_is_name, List.replicate, in_az hc, h5, h6, k1, k2, e1]
theorem check_name (z : Str) (h : NameOk z) (st : Sto) : F_check_name [.str z] st = .ok .non st := by
  simp [F_check_name, B_check_name, List.replicate, is_name z h]
theorem in_range (x : Str) (i lo hi : Int) (h : lo ≤ i ∧ i ≤ hi) (st : Sto) : F_in_range [.str x, .int i, .int lo, .int hi] st = .ok .non st := by
  simp [F_in_range, B_in_range, List.replicate, h.1, h.2]
theorem check_sides (l w : Int) (h : 1 ≤ l ∧ l ≤ 60) (h2 : 1 ≤ w ∧ w ≤ 60) (st : Sto) : F_check_sides [.int l, .int w] st = .ok .non st := by
  simp [F_check_sides, B_check_sides, List.replicate, in_range _ l 1 60 h, in_range _ w 1 60 h2]
/-! making -/
@[simp] theorem take_all1 (st : Sto) (o : SO) : List.take (List.length st + 1) (st ++ [o]) = st ++ [o] := by
  rw [List.take_of_length_le (by simp)]
@[simp] theorem take_all2 (st : Sto) (o u : SO) : List.take (List.length st + 1) (st ++ [o, u]) = st ++ [o] := by
  rw [List.take_append, List.take_of_length_le (by omega)]
  simp
abbrev oKind (z : Str) (l w p : Int) (t : Bool) : D := .obj "Kind" ["name", "length", "width", "price", "turns"] [.str z, .int l, .int w, .int p, .bl t]
theorem mk_kind (z : Str) (l w p : Int) (t : Bool) (hc : NameOk z) (h : 1 ≤ l ∧ l ≤ 60) (h2 : 1 ≤ w ∧ w ≤ 60) (h3 : 0 ≤ p ∧ p ≤ 1000000000) (st : Sto) :
    mkD "Kind" F_init_Kind [.str z, .int l, .int w, .int p, .bl t] st = .ok (oKind z l w p t) st := by
  simp [mkD, F_init_Kind, B_init_Kind, List.replicate, check_name z hc, check_sides l w h h2, in_range _ p 0 1000000000 h3, D.gnd, pg]
abbrev oRest (z : Str) (l w p : Int) : D := .obj "Rest" ["name", "length", "width", "cost"] [.str z, .int l, .int w, .int p]
theorem mk_rest (z : Str) (l w p : Int) (hc : NameOk z) (h : 1 ≤ l ∧ l ≤ 60) (h2 : 1 ≤ w ∧ w ≤ 60) (h3 : 0 ≤ p ∧ p ≤ 1000000000) (ha : 1 ≤ l * w ∧ l * w ≤ 120) (st : Sto) :
    mkD "Rest" F_init_Rest [.str z, .int l, .int w, .int p] st = .ok (oRest z l w p) st := by
  simp [mkD, F_init_Rest, B_init_Rest, List.replicate, check_name z hc, check_sides l w h h2, in_range _ p 0 1000000000 h3, oMul_r l w (by omega) (by omega), in_range _ (l * w) 1 120 ha, D.gnd, pg]
theorem asc0 (st : Sto) : F_ascending_cells [.tup []] st = .ok (.tup []) st := by
  simp [F_ascending_cells, B_ascending_cells, List.replicate, lcL, cSorted, enumD, sortI, finR, D.gnd, D.gnds]
abbrev oBoard (z : Str) (l w p t : Int) (fs : List D) : D := .obj "Board" ["name", "length", "width", "cost", "trim", "faults"] [.str z, .int l, .int w, .int p, .int t, .tup fs]
theorem mk_board0 (z : Str) (l w p t : Int) (hc : NameOk z) (h : 1 ≤ l ∧ l ≤ 60) (h2 : 1 ≤ w ∧ w ≤ 60) (h3 : 0 ≤ p ∧ p ≤ 1000000000) (ht : 0 ≤ t ∧ 2 * t < l ∧ 2 * t < w) (ha : 1 ≤ (l - 2 * t) * (w - 2 * t) ∧ (l - 2 * t) * (w - 2 * t) ≤ 120) (st : Sto) :
    mkD "Board" F_init_Board [.str z, .int l, .int w, .int p, .int t, .tup []] st = .ok (oBoard z l w p t []) st := by
  have k1 : ¬ t < 0 := by omega
  have k2 : ¬ l ≤ 2 * t := by omega
  have k3 : ¬ w ≤ 2 * t := by omega
  simp [mkD, F_init_Board, B_init_Board, List.replicate, check_name z hc, check_sides l w h h2, in_range _ p 0 1000000000 h3, oMul_r 2 t (by omega) (by omega), oMul_r (l - 2 * t) (w - 2 * t) (by omega) (by omega), in_range _ ((l - 2 * t) * (w - 2 * t)) 1 120 ha, k1, k2, k3, D.gnd, D.gnds, pg, asc0]
end K08

set_option Elab.async false
set_option linter.all false
set_option maxRecDepth 100000
set_option maxHeartbeats 1000000
/-! G_3: days, checks of a sheet, sheets. -/
namespace K08
open Cb Cb.Run
open PySem (Str)
/-! days -/
abbrev pr (o : Int × Int) : D := .tup [.int o.1, .int o.2]
theorem gnds_pr : ∀ os : List (Int × Int), D.gnds (os.map pr) = true
  | [] => rfl
  | o :: os => by simp [D.gnds, D.gnd, gnds_pr os]
theorem gnds_int : ∀ os : List Int, D.gnds (os.map D.int) = true
  | [] => rfl
  | o :: os => by simp [D.gnds, D.gnd, gnds_int os]
abbrev DayV : Type := List (Int × Int) × List Int
def oDay (v : DayV) : D := .obj "Day" ["orders", "supplies"] [.tup (v.1.map pr), .tup (v.2.map D.int)]
theorem gnd_day (v : DayV) : (oDay v).gnd = true := by simp [oDay, D.gnd, D.gnds, gnds_pr, gnds_int]
structure DayOk (v : DayV) : Prop where
  o : ∀ o ∈ v.1, (0 ≤ o.1 ∧ o.1 ≤ o.2) ∧ o.2 ≤ 6
  s : ∀ s ∈ v.2, 0 ≤ s ∧ s ≤ 6
  l : v.1.length ≤ 1000 ∧ v.2.length ≤ 1000
theorem mk_day (v : DayV) (h : DayOk v) (st : Sto) : mkD "Day" F_init_Day [.tup (v.1.map pr), .tup (v.2.map D.int)] st = .ok (oDay v) st := by
  obtain ⟨os, ss⟩ := v
  obtain ⟨ho, hs, hl1, hl2⟩ := h
  dsimp only at ho hs hl1 hl2
  have f1 := fun st : Sto => forL_inv (g := gTup (gCons (gName 3) (gCons (gName 4) gNil))) (b := L_init_Day_0) (ds := os.map pr) (I := fun _ env s => ∃ x y, env = [some (.ref st.length), some (.tup (os.map pr)), some (.tup (ss.map D.int)), x, y, none] ∧ s = st ++ [.ins "Day" [] []]) (fun i d env s hd hI => by
    obtain ⟨x, y, rfl, rfl⟩ := hI
    obtain ⟨o, hm, rfl⟩ := List.mem_map.mp (List.mem_of_getElem? hd)
    have hb := ho o hm
    have e : L_init_Day_0 [some (.ref st.length), some (.tup (os.map pr)), some (.tup (ss.map D.int)), some (.int o.1), some (.int o.2), none] (st ++ [.ins "Day" [] []]) = .ok (.nx [some (.ref st.length), some (.tup (os.map pr)), some (.tup (ss.map D.int)), some (.int o.1), some (.int o.2), none]) (st ++ [.ins "Day" [] []]) := by
      simp [L_init_Day_0, in_range _ o.2 0 6 (by omega), in_range _ o.1 0 o.2 (by omega)]
    exact ⟨_, _, _, rfl, e, _, _, rfl, rfl⟩) (env := [some (.ref st.length), some (.tup (os.map pr)), some (.tup (ss.map D.int)), none, none, none]) (st := st ++ [.ins "Day" [] []]) ⟨none, none, rfl, rfl⟩
  obtain ⟨env, st', e1, x, y, rfl, rfl⟩ := f1 st
  have f2 := forL_inv (g := gName 5) (b := L_init_Day_1) (ds := ss.map D.int) (I := fun _ env s => ∃ z, env = [some (.ref st.length), some (.tup (os.map pr)), some (.tup (ss.map D.int)), x, y, z] ∧ s = st ++ [.ins "Day" [] []]) (fun i d env s hd hI => by
    obtain ⟨z, rfl, rfl⟩ := hI
    obtain ⟨o, hm, rfl⟩ := List.mem_map.mp (List.mem_of_getElem? hd)
    have e : L_init_Day_1 [some (.ref st.length), some (.tup (os.map pr)), some (.tup (ss.map D.int)), x, y, some (.int o)] (st ++ [.ins "Day" [] []]) = .ok (.nx [some (.ref st.length), some (.tup (os.map pr)), some (.tup (ss.map D.int)), x, y, some (.int o)]) (st ++ [.ins "Day" [] []]) := by
      simp [L_init_Day_1, in_range _ o 0 6 (hs o hm)]
    exact ⟨_, _, _, rfl, e, _, rfl, rfl⟩) (env := [some (.ref st.length), some (.tup (os.map pr)), some (.tup (ss.map D.int)), x, y, none]) (st := st ++ [.ins "Day" [] []]) ⟨none, rfl, rfl⟩
  obtain ⟨env, st', e2, z, rfl, rfl⟩ := f2
  have hlc := lcL_map (g := gTup (gCons (gName 3) (gCons (gName 4) gNil))) (c := tYes) (e := C_init_Day_0) (env := [some (.ref st.length), some (.tup (os.map pr)), some (.tup (ss.map D.int)), none, none, z]) (st := st ++ [.ins "Day" [] []]) (p := fun _ => true) (h := fun d => d) (os.map pr) [] (by simp; omega) (fun d hd => by
    obtain ⟨o, hm, rfl⟩ := List.mem_map.mp hd
    exact ⟨_, rfl, fun acc => ⟨rfl, fun _ => ⟨by simp [C_init_Day_0], by simp [D.gnd, D.gnds]⟩⟩⟩)
  rw [List.filter_eq_self.mpr (fun _ _ => rfl), List.map_id'] at hlc
  simp at hlc
  simp [mkD, F_init_Day, B_init_Day, List.replicate, e1, e2, hlc, D.gnd, gnds_pr, gnds_int, pg, oDay]
theorem mk_dayL (v : DayV) (h : DayOk v) (st : Sto) : mkD "Day" F_init_Day [.lst (v.1.map pr), .tup (v.2.map D.int)] st = .ok (oDay v) st := by
  obtain ⟨os, ss⟩ := v
  obtain ⟨ho, hs, hl1, hl2⟩ := h
  dsimp only at ho hs hl1 hl2
  have f1 := fun st : Sto => forL_inv (g := gTup (gCons (gName 3) (gCons (gName 4) gNil))) (b := L_init_Day_0) (ds := os.map pr) (I := fun _ env s => ∃ x y, env = [some (.ref st.length), some (.lst (os.map pr)), some (.tup (ss.map D.int)), x, y, none] ∧ s = st ++ [.ins "Day" [] []]) (fun i d env s hd hI => by
    obtain ⟨x, y, rfl, rfl⟩ := hI
    obtain ⟨o, hm, rfl⟩ := List.mem_map.mp (List.mem_of_getElem? hd)
    have hb := ho o hm
    have e : L_init_Day_0 [some (.ref st.length), some (.lst (os.map pr)), some (.tup (ss.map D.int)), some (.int o.1), some (.int o.2), none] (st ++ [.ins "Day" [] []]) = .ok (.nx [some (.ref st.length), some (.lst (os.map pr)), some (.tup (ss.map D.int)), some (.int o.1), some (.int o.2), none]) (st ++ [.ins "Day" [] []]) := by
      simp [L_init_Day_0, in_range _ o.2 0 6 (by omega), in_range _ o.1 0 o.2 (by omega)]
    exact ⟨_, _, _, rfl, e, _, _, rfl, rfl⟩) (env := [some (.ref st.length), some (.lst (os.map pr)), some (.tup (ss.map D.int)), none, none, none]) (st := st ++ [.ins "Day" [] []]) ⟨none, none, rfl, rfl⟩
  obtain ⟨env, st', e1, x, y, rfl, rfl⟩ := f1 st
  have f2 := forL_inv (g := gName 5) (b := L_init_Day_1) (ds := ss.map D.int) (I := fun _ env s => ∃ z, env = [some (.ref st.length), some (.lst (os.map pr)), some (.tup (ss.map D.int)), x, y, z] ∧ s = st ++ [.ins "Day" [] []]) (fun i d env s hd hI => by
    obtain ⟨z, rfl, rfl⟩ := hI
    obtain ⟨o, hm, rfl⟩ := List.mem_map.mp (List.mem_of_getElem? hd)
    have e : L_init_Day_1 [some (.ref st.length), some (.lst (os.map pr)), some (.tup (ss.map D.int)), x, y, some (.int o)] (st ++ [.ins "Day" [] []]) = .ok (.nx [some (.ref st.length), some (.lst (os.map pr)), some (.tup (ss.map D.int)), x, y, some (.int o)]) (st ++ [.ins "Day" [] []]) := by
      simp [L_init_Day_1, in_range _ o 0 6 (hs o hm)]
    exact ⟨_, _, _, rfl, e, _, rfl, rfl⟩) (env := [some (.ref st.length), some (.lst (os.map pr)), some (.tup (ss.map D.int)), x, y, none]) (st := st ++ [.ins "Day" [] []]) ⟨none, rfl, rfl⟩
  obtain ⟨env, st', e2, z, rfl, rfl⟩ := f2
  have hlc := lcL_map (g := gTup (gCons (gName 3) (gCons (gName 4) gNil))) (c := tYes) (e := C_init_Day_0) (env := [some (.ref st.length), some (.lst (os.map pr)), some (.tup (ss.map D.int)), none, none, z]) (st := st ++ [.ins "Day" [] []]) (p := fun _ => true) (h := fun d => d) (os.map pr) [] (by simp; omega) (fun d hd => by
    obtain ⟨o, hm, rfl⟩ := List.mem_map.mp hd
    exact ⟨_, rfl, fun acc => ⟨rfl, fun _ => ⟨by simp [C_init_Day_0], by simp [D.gnd, D.gnds]⟩⟩⟩)
  rw [List.filter_eq_self.mpr (fun _ _ => rfl), List.map_id'] at hlc
  simp at hlc
  simp [mkD, F_init_Day, B_init_Day, List.replicate, e1, e2, hlc, D.gnd, gnds_pr, gnds_int, pg, oDay]
/-! a sheet's checks -/
theorem check_many (x : Str) (xs : List D) (lo hi : Int) (h : lo ≤ xs.length ∧ (xs.length : Int) ≤ hi) (st : Sto) : F_check_many [.str x, .lst xs, .int lo, .int hi] st = .ok .non st := by
  simp [F_check_many, B_check_many, List.replicate, h.1, h.2]
theorem check_manyT (x : Str) (xs : List D) (lo hi : Int) (h : lo ≤ xs.length ∧ (xs.length : Int) ≤ hi) (st : Sto) : F_check_many [.str x, .tup xs, .int lo, .int hi] st = .ok .non st := by
  simp [F_check_many, B_check_many, List.replicate, h.1, h.2]
def nameD : D → D
  | .obj C fs xs => (attrD pg C "name" fs xs).getD .non
  | d => d
theorem names_in (c : Str) : ∀ cs : List Str, (cs.map D.str).any (fun z => z.eqv (.str c)) = decide (c ∈ cs)
  | [] => rfl
  | a :: cs => by
    rw [List.map_cons, List.any_cons, names_in c cs]
    have : D.eqv (.str a) (.str c) = decide (c = a) := by
      simp only [D.eqv]
      by_cases h : c = a
      · subst h; simp
      · rw [decide_eq_false h, beq_eq_false_iff_ne]
        exact fun z => h z.symm
    rw [this]
    simp [List.mem_cons]
theorem plains_names (n : Nat) : ∀ cs : List Str, D.plains n (cs.map D.str) = true
  | [] => rfl
  | c :: cs => by
    cases n <;> simp [D.plains, D.plain, plains_names]
theorem enum_at : ∀ (ds : List D) (k i : Nat), (enumD k ds)[i]? = (ds[i]?).map fun d => .tup [.int ((k + i : Nat) : Int), d]
  | [], k, i => by simp [enumD]
  | d :: ds, k, 0 => by simp [enumD]
  | d :: ds, k, i + 1 => by
    rw [enumD, List.getElem?_cons_succ, List.getElem?_cons_succ, enum_at ds (k + 1) i]
    rw [show k + 1 + i = k + (i + 1) by omega]
theorem check_names (os : List D) (cs : List Str) (ho : ∀ d ∈ os, ∃ C fs xs, d = .obj C fs xs) (hm : os.map nameD = cs.map D.str) (hn : cs.Nodup) (hl : os.length ≤ 1000) (st : Sto) : F_check_names [.lst os] st = .ok .non st := by
  have hlen : os.length = cs.length := by simpa using congrArg List.length hm
  have hlc := lcL_map (g := gName 4) (c := tYes) (e := C_check_names_0) (env := [some (.lst os), none, none, none, none]) (st := st) (p := fun _ => true) (h := nameD) os [] (by simp; omega) (fun d hd => by
    obtain ⟨C, fs, xs, rfl⟩ := ho d hd
    have hmem : nameD (.obj C fs xs) ∈ cs.map D.str := by rw [← hm]; exact List.mem_map_of_mem hd
    obtain ⟨c, _, hc⟩ := List.mem_map.mp hmem
    have e : attrD pg C "name" fs xs = some (.str c) := by
      simp only [nameD] at hc
      cases h : attrD pg C "name" fs xs with
      | none => rw [h] at hc; cases hc
      | some z => rw [h] at hc; rw [hc]; rfl
    exact ⟨_, rfl, fun acc => ⟨rfl, fun _ => ⟨by simp [C_check_names_0, e, nameD], by simp [nameD, e, D.gnd]⟩⟩⟩)
  rw [List.filter_eq_self.mpr (fun _ _ => rfl), hm] at hlc
  have f1 := forL_inv (g := gTup (gCons (gName 2) (gCons (gName 3) gNil))) (b := L_check_names_0) (ds := enumD 0 (cs.map D.str)) (I := fun _ env s => ∃ x y, env = [some (.lst os), some (.lst (cs.map D.str)), x, y, none] ∧ s = st) (fun i d env s hd hI => by
    obtain ⟨x, y, rfl, rfl⟩ := hI
    rw [enum_at, List.getElem?_map] at hd
    cases hc : cs[i]? with
    | none => rw [hc] at hd; cases hd
    | some c =>
      rw [hc] at hd
      cases hd
      have hcut : oSl (.lst (cs.map D.str)) none (some ((0 + i : Nat) : Int)) = some (.lst ((cs.take i).map D.str)) := by
        rw [oSl_take, Nat.zero_add, List.map_take]
      have hin : oIn (.str c) (.lst ((cs.take i).map D.str)) = some (.bl false) := by
        simp only [oIn, isInD, D.plain, plains_names, and_self, if_true, names_in, Option.map_some]
        rw [decide_eq_false]
        intro hmem
        obtain ⟨j, hj, e⟩ := List.mem_iff_getElem.mp hmem
        rw [List.getElem_take] at e
        obtain ⟨hi, e2⟩ := List.getElem?_eq_some_iff.mp hc
        have hji : j < i := by simp at hj; omega
        exact List.pairwise_iff_getElem.mp hn j i (by omega) hi hji (by rw [e, e2])
      have e : L_check_names_0 [some (.lst os), some (.lst (cs.map D.str)), some (.int ((0 + i : Nat) : Int)), some (.str c), none] s = .ok (.nx [some (.lst os), some (.lst (cs.map D.str)), some (.int ((0 + i : Nat) : Int)), some (.str c), none]) s := by
        simp only [L_check_names_0, sIf_ap, tB_ap, eB_ap, eVar_ap, eSl_ap, pNone_ap, pSome_ap, List.getElem?_cons_zero, List.getElem?_cons_succ, bnd_ok, view_lst0, hcut, of_some, view_str, hin, st_ok]
        rfl
      exact ⟨_, _, _, rfl, e, _, _, rfl, rfl⟩) (env := [some (.lst os), some (.lst (cs.map D.str)), none, none, none]) (st := st) ⟨none, none, rfl, rfl⟩
  obtain ⟨env, st', e1, x, y, rfl, rfl⟩ := f1
  simp only [List.nil_append] at hlc
  simp [F_check_names, B_check_names, List.replicate, hlc, e1]
theorem check_days (vs : List DayV) (ks bs : List D) (h : ∀ v ∈ vs, v.1.length = ks.length ∧ v.2.length = bs.length) (st : Sto) : F_check_days [.lst (vs.map oDay), .lst ks, .lst bs] st = .ok .non st := by
  have f1 := forL_inv (g := gName 3) (b := L_check_days_0) (ds := vs.map oDay) (I := fun _ env s => ∃ x, env = [some (.lst (vs.map oDay)), some (.lst ks), some (.lst bs), x] ∧ s = st) (fun i d env s hd hI => by
    obtain ⟨x, rfl, rfl⟩ := hI
    obtain ⟨v, hm, rfl⟩ := List.mem_map.mp (List.mem_of_getElem? hd)
    have hv := h v hm
    have e : L_check_days_0 [some (.lst (vs.map oDay)), some (.lst ks), some (.lst bs), some (oDay v)] s = .ok (.nx [some (.lst (vs.map oDay)), some (.lst ks), some (.lst bs), some (oDay v)]) s := by
      simp [L_check_days_0, oDay, attrD, pg, fldD, hv.1, hv.2]
    exact ⟨_, _, _, rfl, e, _, rfl, rfl⟩) (env := [some (.lst (vs.map oDay)), some (.lst ks), some (.lst bs), none]) (st := st) ⟨none, rfl, rfl⟩
  obtain ⟨env, st', e1, x, rfl, rfl⟩ := f1
  simp [F_check_days, B_check_days, List.replicate, e1]
/-! the box -/
def prodO : List (Int × Int) → Int → Int
  | [], n => n
  | o :: os, n => prodO os (n * (o.2 + 1))
def prodD : List DayV → Int → Int
  | [], n => n
  | v :: vs, n => prodD vs (prodO v.1 n)
theorem prodO_take : ∀ (os : List (Int × Int)) (n : Int) (i : Nat) (o : Int × Int), os[i]? = some o → prodO (os.take (i + 1)) n = prodO (os.take i) n * (o.2 + 1)
  | [], _, _, _, h => by simp at h
  | o :: os, n, 0, p, h => by
    simp at h
    subst h
    simp [prodO]
  | o :: os, n, i + 1, p, h => by
    simp only [List.take_succ_cons, prodO]
    exact prodO_take os _ i p (by simpa using h)
theorem prodD_take : ∀ (vs : List DayV) (n : Int) (i : Nat) (v : DayV), vs[i]? = some v → prodD (vs.take (i + 1)) n = prodO v.1 (prodD (vs.take i) n)
  | [], _, _, _, h => by simp at h
  | o :: os, n, 0, p, h => by
    simp at h
    subst h
    simp [prodD]
  | o :: os, n, i + 1, p, h => by
    simp only [List.take_succ_cons, prodD]
    exact prodD_take os _ i p (by simpa using h)
theorem count_lots (vs : List DayV) (h : ∀ v ∈ vs, DayOk v) (st : Sto) : F_count_lots [.lst (vs.map oDay)] st = .ok (.int (prodD vs 1)) st := by
  have f1 := fun (v : DayV) (hv : DayOk v) (n : Int) (x y : Option D) => forL_inv (g := gName 3) (b := L_count_lots_0) (ds := v.1.map pr) (I := fun i env s => ∃ y, env = [some (.lst (vs.map oDay)), some (.int (prodO (v.1.take i) n)), x, y] ∧ s = st) (fun i d env s hd hI => by
    obtain ⟨y, rfl, rfl⟩ := hI
    rw [List.getElem?_map] at hd
    cases ho : v.1[i]? with
    | none => rw [ho] at hd; cases hd
    | some o =>
      rw [ho] at hd
      cases hd
      have hb := hv.o o (List.mem_of_getElem? ho)
      have h1 : oIx (pr o) (.int 1) = some (.int o.2) := rfl
      have e : L_count_lots_0 [some (.lst (vs.map oDay)), some (.int (prodO (v.1.take i) n)), x, some (pr o)] s = .ok (.nx [some (.lst (vs.map oDay)), some (.int (prodO (v.1.take (i + 1)) n)), x, some (pr o)]) s := by
        rw [prodO_take _ _ _ _ ho]
        simp [L_count_lots_0, h1, oMul_r _ (o.2 + 1) (by omega) (by omega)]
      exact ⟨_, _, _, rfl, e, _, rfl, rfl⟩) (env := [some (.lst (vs.map oDay)), some (.int n), x, y]) (st := st) ⟨y, by simp [prodO], rfl⟩
  have f2 := forL_inv (g := gName 2) (b := L_count_lots_1) (ds := vs.map oDay) (I := fun i env s => ∃ x y, env = [some (.lst (vs.map oDay)), some (.int (prodD (vs.take i) 1)), x, y] ∧ s = st) (fun i d env s hd hI => by
    obtain ⟨x, y, rfl, rfl⟩ := hI
    rw [List.getElem?_map] at hd
    cases ho : vs[i]? with
    | none => rw [ho] at hd; cases hd
    | some v =>
      rw [ho] at hd
      cases hd
      obtain ⟨env', st', e1, y2, he, hst⟩ := f1 v (h v (List.mem_of_getElem? ho)) (prodD (vs.take i) 1) (some (oDay v)) y
      rw [he, hst] at e1
      have e : L_count_lots_1 [some (.lst (vs.map oDay)), some (.int (prodD (vs.take i) 1)), some (oDay v), y] s = .ok (.nx [some (.lst (vs.map oDay)), some (.int (prodD (vs.take (i + 1)) 1)), some (oDay v), y2]) s := by
        rw [prodD_take _ _ _ _ ho]
        rw [List.length_map, List.take_length] at e1
        simp [L_count_lots_1, oDay, attrD, pg, fldD]
        simpa [oDay] using e1
      exact ⟨_, _, _, rfl, e, _, _, rfl, rfl⟩) (env := [some (.lst (vs.map oDay)), some (.int 1), none, none]) (st := st) ⟨none, none, by simp [prodD], rfl⟩
  obtain ⟨env, st', e1, x, y, rfl, rfl⟩ := f2
  rw [List.length_map, List.take_length] at e1
  simp [F_count_lots, B_count_lots, List.replicate, e1]
/-! sheets -/
theorem fm_int : ∀ ns : List Int, (ns.map D.int).filterMap D.int? = ns
  | [] => rfl
  | n :: ns => by rw [List.map_cons, List.filterMap_cons, fm_int ns]; rfl
theorem mapM_int : ∀ ns : List Int, (ns.map D.int).mapM D.int? = some ns
  | [] => rfl
  | n :: ns => by simp [List.mapM_cons, D.int?, mapM_int ns]
theorem cSum_lst (ns : List Int) : cSum [.lst (ns.map D.int)] = some (.int ns.sum) := by simp only [cSum, mapM_int, Option.map_some]
theorem cSum_tup (ns : List Int) : cSum [.tup (ns.map D.int)] = some (.int ns.sum) := by simp only [cSum, mapM_int, Option.map_some]
def supD : D → D
  | .obj _ _ [_, .tup xs] => .int ((xs.filterMap D.int?).sum)
  | d => d
theorem gnds_day : ∀ vs : List DayV, D.gnds (vs.map oDay) = true
  | [] => rfl
  | v :: vs => by simp [D.gnds, gnd_day, gnds_day vs]
def oSheet (ks bs : List D) (vs : List DayV) (rs : List D) (kerf : Int) (sg : D) (cost : Int) : D := .obj "Sheet" ["kinds", "boards", "days", "rests", "kerf", "stages", "cut_cost"] [.tup ks, .tup bs, .tup (vs.map oDay), .tup rs, .int kerf, sg, .int cost]
structure SheetOk (ks bs : List D) (vs : List DayV) (rs : List D) (kerf : Int) (sg : D) (cost : Int) : Prop where
  k : 1 ≤ ks.length ∧ ks.length ≤ 6
  b : 1 ≤ bs.length ∧ bs.length ≤ 4
  v : 1 ≤ vs.length ∧ vs.length ≤ 3
  r : rs.length ≤ 3
  obj : ∀ d ∈ ks ++ (bs ++ rs), ∃ C fs xs, d = .obj C fs xs
  name : ∃ cs : List Str, (ks ++ (bs ++ rs)).map nameD = cs.map D.str ∧ cs.Nodup
  gk : D.gnds ks = true
  gb : D.gnds bs = true
  gr : D.gnds rs = true
  day : ∀ v ∈ vs, DayOk v ∧ v.1.length = ks.length ∧ v.2.length = bs.length
  lots : prodD vs 1 ≤ 256
  sups : (vs.map fun v => v.2.sum).sum ≤ 12
  kerf : 0 ≤ kerf ∧ kerf ≤ 20
  sg : sg = .non ∨ ∃ s : Int, sg = .int s ∧ 1 ≤ s ∧ s ≤ 8
  cost : 0 ≤ cost ∧ cost ≤ 1000000000
theorem mk_sheet {ks bs : List D} {vs : List DayV} {rs : List D} {kerf : Int} {sg : D} {cost : Int} (h : SheetOk ks bs vs rs kerf sg cost) (st : Sto) :
    mkD "Sheet" F_init_Sheet [.lst ks, .lst bs, .lst (vs.map oDay), .lst rs, .int kerf, sg, .int cost] st = .ok (oSheet ks bs vs rs kerf sg cost) st := by
  obtain ⟨h1, h2, h3, h4, ho, ⟨cs, hm, hn⟩, gk, gb, gr, hd, hlots, hsup, hk, hs, hc⟩ := h
  have hlc := lcL_map (g := gName 8) (c := tYes) (e := C_init_Sheet_0) (env := [some (.ref st.length), some (.lst ks), some (.lst bs), some (.lst (vs.map oDay)), some (.lst rs), some (.int kerf), some sg, some (.int cost), none]) (st := st ++ [.ins "Sheet" [] []]) (p := fun _ => true) (h := supD) (vs.map oDay) [] (by simp; omega) (fun d hd => by
    obtain ⟨v, _, rfl⟩ := List.mem_map.mp hd
    have hf : (v.2.map D.int).filterMap D.int? = v.2 := fm_int _
    have hsum : cSum [.tup (v.2.map D.int)] = some (.int v.2.sum) := cSum_tup _
    refine ⟨_, rfl, fun acc => ⟨rfl, fun _ => ⟨?_, ?_⟩⟩⟩
    · simp [C_init_Sheet_0, oDay, attrD, pg, fldD, hsum, supD, hf]
    · simp [supD, oDay, D.gnd])
  rw [List.filter_eq_self.mpr (fun _ _ => rfl), List.map_map] at hlc
  have hsd : vs.map (supD ∘ oDay) = (vs.map fun v => v.2.sum).map D.int := by
    rw [List.map_map]
    refine List.map_congr_left fun v _ => ?_
    have hf : (v.2.map D.int).filterMap D.int? = v.2 := fm_int _
    simp [supD, oDay, hf]
  rw [hsd] at hlc
  have hsum := cSum_lst (vs.map fun v => v.2.sum)
  have hsg : sg.gnd = true := by
    rcases hs with rfl | ⟨s, rfl, _⟩ <;> rfl
  have hnames := fun s : Sto => check_names (ks ++ (bs ++ rs)) cs ho hm hn (by simp; omega) s
  have c1 := fun x st => check_many x ks 1 6 (by omega) st
  have c2 := fun x st => check_many x bs 1 4 (by omega) st
  have c3 := fun x st => check_many x (vs.map oDay) 1 3 (by simp; omega) st
  have c4 := fun x st => check_many x rs 0 3 (by omega) st
  have c5 := fun st => check_days vs ks bs (fun v hv => (hd v hv).2) st
  have c6 := fun st => count_lots vs (fun v hv => (hd v hv).1) st
  have hlen : ks.length + (bs.length + rs.length) ≤ 1000000 := by omega
  have n1 : ¬ 256 < prodD vs 1 := by omega
  have n2 : ¬ 12 < (vs.map fun v => v.2.sum).sum := by omega
  simp only [List.length_append, List.length_cons, List.length_nil, List.nil_append, List.append_assoc, List.cons_append] at hlc
  generalize (vs.map fun v => v.2.sum) = sums at hlc hsum n2
  rcases hs with rfl | ⟨q, rfl, hq⟩
  · simp [mkD, F_init_Sheet, B_init_Sheet, List.replicate, c1, c2, c3, c4, c5, c6, hnames, in_range _ kerf 0 20 hk, in_range _ cost 0 1000000000 hc, hlc, hsum, attrD, conD, pg, D.gnd, D.gnds, gk, gb, gr, gnds_day, hlen, n1, n2, oSheet]
  · simp [mkD, F_init_Sheet, B_init_Sheet, List.replicate, c1, c2, c3, c4, c5, c6, hnames, in_range _ kerf 0 20 hk, in_range _ q 1 8 hq, in_range _ cost 0 1000000000 hc, hlc, hsum, attrD, conD, pg, D.gnd, D.gnds, gk, gb, gr, gnds_day, hlen, n1, n2, oSheet]
theorem mk_sheetT {ks bs : List D} {vs : List DayV} {rs : List D} {kerf : Int} {sg : D} {cost : Int} (h : SheetOk ks bs vs rs kerf sg cost) (st : Sto) :
    mkD "Sheet" F_init_Sheet [.lst ks, .lst bs, .lst (vs.map oDay), .tup rs, .int kerf, sg, .int cost] st = .ok (oSheet ks bs vs rs kerf sg cost) st := by
  obtain ⟨h1, h2, h3, h4, ho, ⟨cs, hm, hn⟩, gk, gb, gr, hd, hlots, hsup, hk, hs, hc⟩ := h
  have hlc := lcL_map (g := gName 8) (c := tYes) (e := C_init_Sheet_0) (env := [some (.ref st.length), some (.lst ks), some (.lst bs), some (.lst (vs.map oDay)), some (.tup rs), some (.int kerf), some sg, some (.int cost), none]) (st := st ++ [.ins "Sheet" [] []]) (p := fun _ => true) (h := supD) (vs.map oDay) [] (by simp; omega) (fun d hd => by
    obtain ⟨v, _, rfl⟩ := List.mem_map.mp hd
    have hf : (v.2.map D.int).filterMap D.int? = v.2 := fm_int _
    have hsum : cSum [.tup (v.2.map D.int)] = some (.int v.2.sum) := cSum_tup _
    refine ⟨_, rfl, fun acc => ⟨rfl, fun _ => ⟨?_, ?_⟩⟩⟩
    · simp [C_init_Sheet_0, oDay, attrD, pg, fldD, hsum, supD, hf]
    · simp [supD, oDay, D.gnd])
  rw [List.filter_eq_self.mpr (fun _ _ => rfl), List.map_map] at hlc
  have hsd : vs.map (supD ∘ oDay) = (vs.map fun v => v.2.sum).map D.int := by
    rw [List.map_map]
    refine List.map_congr_left fun v _ => ?_
    have hf : (v.2.map D.int).filterMap D.int? = v.2 := fm_int _
    simp [supD, oDay, hf]
  rw [hsd] at hlc
  have hsum := cSum_lst (vs.map fun v => v.2.sum)
  have hsg : sg.gnd = true := by
    rcases hs with rfl | ⟨s, rfl, _⟩ <;> rfl
  have hnames := fun s : Sto => check_names (ks ++ (bs ++ rs)) cs ho hm hn (by simp; omega) s
  have c1 := fun x st => check_many x ks 1 6 (by omega) st
  have c2 := fun x st => check_many x bs 1 4 (by omega) st
  have c3 := fun x st => check_many x (vs.map oDay) 1 3 (by simp; omega) st
  have c4 := fun x st => check_manyT x rs 0 3 (by omega) st
  have c5 := fun st => check_days vs ks bs (fun v hv => (hd v hv).2) st
  have c6 := fun st => count_lots vs (fun v hv => (hd v hv).1) st
  have hlen : ks.length + (bs.length + rs.length) ≤ 1000000 := by omega
  have n1 : ¬ 256 < prodD vs 1 := by omega
  have n2 : ¬ 12 < (vs.map fun v => v.2.sum).sum := by omega
  simp only [List.length_append, List.length_cons, List.length_nil, List.nil_append, List.append_assoc, List.cons_append] at hlc
  generalize (vs.map fun v => v.2.sum) = sums at hlc hsum n2
  rcases hs with rfl | ⟨q, rfl, hq⟩
  · simp [mkD, F_init_Sheet, B_init_Sheet, List.replicate, c1, c2, c3, c4, c5, c6, hnames, in_range _ kerf 0 20 hk, in_range _ cost 0 1000000000 hc, hlc, hsum, attrD, conD, pg, D.gnd, D.gnds, gk, gb, gr, gnds_day, hlen, n1, n2, oSheet]
  · simp [mkD, F_init_Sheet, B_init_Sheet, List.replicate, c1, c2, c3, c4, c5, c6, hnames, in_range _ kerf 0 20 hk, in_range _ q 1 8 hq, in_range _ cost 0 1000000000 hc, hlc, hsum, attrD, conD, pg, D.gnd, D.gnds, gk, gb, gr, gnds_day, hlen, n1, n2, oSheet]
end K08

set_option Elab.async false
set_option linter.all false
set_option maxRecDepth 100000
set_option maxHeartbeats 1000000
/-! G_4 (K08: the law's namespace; a block stands where its functions do): boards with faulty cells, things of a sheet, parts, cuts. -/
namespace K08
open Cb Cb.Wm
open PySem (Str)
theorem ascending_cells (cs : List Cell) (hb : Bnd cs) (hl : cs.length < 64) (st : Sto) : F_ascending_cells [.tup (cs.map pairD)] st = .ok (.tup ((asc cs).map pairD)) st := by
  refine W_eq (fn_W rfl ?_)
  simp [B_ascending_cells, List.replicate]
  refine lc_map (f := pairD) (by omega) (fun c hc => ⟨by simp [pairD, D.gnd, D.gnds], _, rfl, fun acc => by simp [C_ascending_cells_0, pairD]⟩) ?_
  simp [cSorted_pairs hb hl]
  refine lc_enum (I := fun pre acc s => acc = (dedA none pre).map pairD ∧ s = st) (by rw [(sortP_perm' cs).length_eq]; omega) ⟨rfl, rfl⟩ ?_ ?_
  · rintro pre x post acc s hx _ ⟨rfl, rfl⟩
    refine lc_turn (p := decide (lastC none pre ≠ some x)) (v := pairD x) rfl ?_ (fun _ => ?_) (fun _ => by simp [pairD, D.gnd, D.gnds]) ?_
    · by_cases hp : pre = []
      · subst hp
        simp [lastC]
      · have hpl : pre.length ≠ 0 := fun z => hp (List.length_eq_zero_iff.mp z)
        have hn : ¬ ((pre.length : Int) = 0) := by omega
        have hget : oIx (.lst ((sortP cs).map pairD)) (.int ((pre.length : Int) - 1)) = some (pairD (pre[pre.length - 1]'(by omega))) := by
          rw [show ((pre.length : Int) - 1) = ((pre.length - 1 : Nat) : Int) by omega]
          refine oIx_lst ?_
          rw [List.getElem?_map, hx, List.getElem?_append_left (by omega), List.getElem?_eq_getElem (by omega)]
          rfl
        have hl2 : lastC none pre = some (pre[pre.length - 1]'(by omega)) := by
          rw [lastC_get pre none hp, List.getElem?_eq_getElem (by omega)]
        simp [hn, hget, oNe_pairs, hl2, hp]
        exact ⟨fun e => e.symm, fun e => e.symm⟩
    · simp [C_ascending_cells_1]
    · refine ⟨?_, rfl⟩
      rw [dedA_snoc]
      by_cases h : lastC none pre = some x <;> simp [h]
  · rintro acc s _ ⟨rfl, rfl⟩
    simp [asc, finR, D.gnd, pairs_gnds]
theorem mk_board (z : Str) (l w p t : Int) (cs : List Cell) (hc : NameOk z) (h : 1 ≤ l ∧ l ≤ 60) (h2 : 1 ≤ w ∧ w ≤ 60) (h3 : 0 ≤ p ∧ p ≤ 1000000000) (ht : 0 ≤ t ∧ 2 * t < l ∧ 2 * t < w) (ha : 1 ≤ (l - 2 * t) * (w - 2 * t) ∧ (l - 2 * t) * (w - 2 * t) ≤ 120)
    (hcl : cs.length ≤ 4) (hcs : ∀ c ∈ cs, (0 ≤ c.1 ∧ c.1 < l) ∧ 0 ≤ c.2 ∧ c.2 < w) (st : Sto) :
    mkD "Board" F_init_Board [.str z, .int l, .int w, .int p, .int t, .tup (cs.map pairD)] st = .ok (oBoard z l w p t ((asc cs).map pairD)) st := by
  have k1 : ¬ t < 0 := by omega
  have k2 : ¬ l ≤ 2 * t := by omega
  have k3 : ¬ w ≤ 2 * t := by omega
  have ka := ascending_cells cs (fun c hc => by have := hcs c hc; omega) (by omega)
  have k4 : ¬ (4 : Int) < cs.length := by omega
  refine W_eq (mk_W (fn_W rfl ?_))
  simp [B_init_Board, List.replicate, check_name z hc, check_sides l w h h2, in_range _ p 0 1000000000 h3, oMul_r 2 t (by omega) (by omega), oMul_r (l - 2 * t) (w - 2 * t) (by omega) (by omega), in_range _ ((l - 2 * t) * (w - 2 * t)) 1 120 ha, k1, k2, k3, k4]
  refine for_map (I := fun E pre env s => ∃ x y, env = (E.set 7 x).set 8 y ∧ s = st ++ [.ins "Board" [] []]) ⟨none, none, rfl, rfl⟩ ?_ ?_
  · rintro pre c post _ _ hx ⟨x, y, rfl, rfl⟩
    refine ⟨_, rfl, ?_⟩
    have hm := hcs c (by rw [hx]; simp)
    simp [L_init_Board_0, hm.1, hm.2]
  · rintro _ _ ⟨x, y, rfl, rfl⟩
    simp [D.gnd, pg, ka, pairs_gnds]
theorem thing_at (xs : List D) (w : Str) (i : Nat) (d : D) (h : xs[i]? = some d) (hg : d.gnd = true) (st : Sto) : F_thing_at [.tup xs, .str w, .int (i : Nat)] st = .ok d st := by
  have hi := (List.getElem?_eq_some_iff.mp h).1
  have h2 : ((i : Nat) : Int) < xs.length := by omega
  refine W_eq (fn_W rfl ?_)
  simp [B_thing_at, List.replicate, h2, oIx_tup h, hg]
theorem kind_at {ks bs : List D} {vs : List DayV} {rs : List D} {kerf cost : Int} {sg : D} (i : Nat) (d : D) (h : ks[i]? = some d) (hg : d.gnd = true) (st : Sto) : F_kind_at [oSheet ks bs vs rs kerf sg cost, .int (i : Nat)] st = .ok d st := by
  refine W_eq (fn_W rfl ?_)
  simp [B_kind_at, List.replicate, oSheet, attrD, pg, fldD, thing_at ks _ i d h hg, hg]
theorem rest_at {ks bs : List D} {vs : List DayV} {rs : List D} {kerf cost : Int} {sg : D} (i : Nat) (d : D) (h : rs[i]? = some d) (hg : d.gnd = true) (st : Sto) : F_rest_at [oSheet ks bs vs rs kerf sg cost, .int (i : Nat)] st = .ok d st := by
  refine W_eq (fn_W rfl ?_)
  simp [B_rest_at, List.replicate, oSheet, attrD, pg, fldD, thing_at rs _ i d h hg, hg]
theorem day_at {ks bs : List D} {vs : List DayV} {rs : List D} {kerf cost : Int} {sg : D} (i : Nat) (hi : i < vs.length) (st : Sto) : ∃ d, F_day_at [oSheet ks bs vs rs kerf sg cost, .int (i : Nat)] st = .ok d st := by
  have h : (vs.map oDay)[i]? = some (oDay vs[i]) := by rw [List.getElem?_map, List.getElem?_eq_getElem hi]; rfl
  refine ⟨oDay vs[i], W_eq (fn_W rfl ?_)⟩
  simp [B_day_at, List.replicate, oSheet, attrD, pg, fldD, thing_at (vs.map oDay) _ i _ h (gnd_day _), gnd_day]
theorem part_from (day l w left way : Int) (cs : List Cell) (hl : cs.length ≤ 1000) (st : Sto) : F_part_from [.int day, .int l, .int w, .int left, .int way, .lst (cs.map pairD)] st = .ok (Prt.mk day l w left way cs).d st := by
  refine W_eq (fn_W rfl ?_)
  simp [B_part_from, List.replicate, D.gnds, D.gnd]
  refine for_map (I := fun E pre env s => ∃ x y, env = (E.set 7 x).set 8 y ∧ s = st ++ [.lst (Prt.mk day l w left way pre).xs]) ⟨none, none, rfl, rfl⟩ ?_ ?_
  · rintro pre c post _ _ hx ⟨x, y, rfl, rfl⟩
    refine ⟨_, rfl, ?_⟩
    have hp : pre.length < cs.length := by rw [hx]; simp
    simp [L_part_from_0, D.gnd, Prt.xs, flat_len, flat_app, flat]
    omega
  · rintro _ _ ⟨x, y, rfl, rfl⟩
    simp
    simp [Prt.d, Prt.xs, finR, D.gnd, D.gnds, flat_gnds]
def leftOf (sg : D) : Int := match sg with
  | .int s => s
  | _ => -1
theorem first_left {ks bs : List D} {vs : List DayV} {rs : List D} {kerf cost : Int} {sg : D} (hs : sg = .non ∨ ∃ s : Int, sg = .int s ∧ 1 ≤ s ∧ s ≤ 8) (st : Sto) : F_first_left [oSheet ks bs vs rs kerf sg cost] st = .ok (.int (leftOf sg)) st := by
  refine W_eq (fn_W rfl ?_)
  rcases hs with rfl | ⟨s, rfl, hs⟩
  · simp [B_first_left, List.replicate, oSheet, attrD, pg, fldD, leftOf]
  · simp [B_first_left, List.replicate, oSheet, attrD, pg, fldD, leftOf]
end K08

set_option Elab.async false
set_option linter.all false
set_option maxRecDepth 100000
set_option maxHeartbeats 1000000
namespace K08
open Cb Cb.Run
open PySem (Str)
theorem rg_at {a : Int} {i : Nat} {d : D} (h : (rgD 0 a)[i]? = some d) : d = .int (i : Nat) ∧ (i : Int) < a := by
  have hi : i < a.toNat := by simpa [rgD] using (List.getElem?_eq_some_iff.mp h).1
  have : (rgD 0 a)[i]? = some (.int (i : Nat)) := by simp [rgD, hi]
  rw [this] at h
  exact ⟨(Option.some.inj h).symm, by omega⟩
/-! G_5: the law's comparison -/
mutual
def okd : Nat → D → Bool
  | 0, _ => false
  | _ + 1, .non => true
  | _ + 1, .bl _ => true
  | _ + 1, .int _ => true
  | _ + 1, .str _ => true
  | n + 1, .tup xs => okds n xs && decide (xs.length ≤ 1000000)
  | n + 1, .lst xs => okds n xs && decide (xs.length ≤ 1000000)
  | _, _ => false
def okds : Nat → List D → Bool
  | _, [] => true
  | n, d :: ds => okd n d && okds n ds
end
theorem okds_at {n : Nat} : ∀ {xs : List D} {i : Nat} {d : D}, okds n xs = true → xs[i]? = some d → okd n d = true
  | [], _, _, _, e => by simp at e
  | x :: xs, 0, d, h, e => by
    have e' : x = d := by simpa using e
    subst e'
    have h' : okd n x = true ∧ okds n xs = true := by simpa [okds] using h
    exact h'.1
  | x :: xs, i + 1, d, h, e => by
    have h' : okd n x = true ∧ okds n xs = true := by simpa [okds] using h
    exact okds_at h'.2 (by simpa using e)
theorem okd_view {n : Nat} {d : D} (h : okd n d = true) (st : Sto) : view st d = d := by
  cases d <;> first | rfl | (cases n <;> simp [okd] at h)
def tyN : D → String
  | .non => "NoneType"
  | .bl _ => "bool"
  | .int _ => "int"
  | .str _ => "str"
  | .tup _ => "tuple"
  | _ => "list"
theorem isi {n : Nat} {d : D} (h : okd n d = true) (T : String) (hT : T ∈ ["bool", "int", "str", "tuple", "list"]) : cIsi pg [d, .ty T] = some (.bl (tyN d == T || (tyN d == "bool" && T == "int"))) := by
  have hT : T = "bool" ∨ T = "int" ∨ T = "str" ∨ T = "tuple" ∨ T = "list" := by simpa using hT
  cases d <;> first
    | (cases n <;> simp [okd] at h; done)
    | (rcases hT with rfl | rfl | rfl | rfl | rfl <;> simp [cIsi, D.tyOf, isiC, ctF, pg, tyN])
theorem same : ∀ (n : Nat) (t x : D) (st : Sto), okd n x = true → view st t = x → F__law_same n [t, x] st = .ok (.bl true) st
  | 0, _, _, _, h, _ => by simp [okd] at h
  | n + 1, t, x, st, h, hv => by
    have vx := okd_view h st
    have i1 := fun T hT => isi h T hT
    have seq : ∀ (xs : List D), x = .tup xs ∨ x = .lst xs → okds n xs = true → xs.length ≤ 1000000 → F__law_same (n + 1) [t, x] st = .ok (.bl true) st := by
      intro xs hx ho hl
      have hlen : cLen [x] = some (.int xs.length) := by rcases hx with rfl | rfl <;> rfl
      have f1 := forL_inv (g := gName 2) (b := L__law_same_0 (F__law_same n)) (ds := rgD 0 xs.length) (I := fun i env s => ∃ z, env = [some t, some x, z] ∧ s = st) (fun i d env s hd hI => by
        obtain ⟨z, rfl, rfl⟩ := hI
        obtain ⟨rfl, hi⟩ := rg_at hd
        have hi2 : i < xs.length := by omega
        have hget : xs[i]? = some xs[i] := List.getElem?_eq_getElem hi2
        have hix : oIx x (.int (i : Nat)) = some xs[i] := by
          rcases hx with rfl | rfl
          · exact oIx_tup hget
          · exact oIx_lst hget
        have ho2 := okds_at ho hget
        have hrc := same n xs[i] xs[i] s ho2 (okd_view ho2 s)
        have e : L__law_same_0 (F__law_same n) [some t, some x, some (.int (i : Nat))] s = .ok (.nx [some t, some x, some (.int (i : Nat))]) s := by
          simp [L__law_same_0, hv, vx, hix, hrc]
        exact ⟨_, _, _, rfl, e, _, rfl, rfl⟩) (env := [some t, some x, none]) (st := st) ⟨none, rfl, rfl⟩
      obtain ⟨env, s, e1, z, rfl, rfl⟩ := f1
      have hr : (-1000000 : Int) ≤ xs.length ∧ (xs.length : Int) ≤ 1000000 := by omega
      have hn : oIsN x .non = some (.bl false) := by rcases hx with rfl | rfl <;> rfl
      rcases hx with rfl | rfl
      · simp [F__law_same, B__law_same, List.replicate, hv, vx, hn, i1, tyN, hlen, hr, e1]
      · simp [F__law_same, B__law_same, List.replicate, hv, vx, hn, i1, tyN, hlen, hr, e1]
    cases x with
    | tup xs =>
      have h' : okds n xs = true ∧ xs.length ≤ 1000000 := by simpa [okd] using h
      exact seq xs (.inl rfl) h'.1 h'.2
    | lst xs =>
      have h' : okds n xs = true ∧ xs.length ≤ 1000000 := by simpa [okd] using h
      exact seq xs (.inr rfl) h'.1 h'.2
    | non => simp [F__law_same, B__law_same, List.replicate, hv]
    | bl b => simp [F__law_same, B__law_same, List.replicate, hv, i1, tyN]
    | int b => simp [F__law_same, B__law_same, List.replicate, hv, i1, tyN]
    | str b => simp [F__law_same, B__law_same, List.replicate, hv, i1, tyN]
    | _ => simp [okd] at h
theorem okds_app (n : Nat) : ∀ xs ys : List D, okds n xs = true → okds n ys = true → okds n (xs ++ ys) = true
  | [], _, _, h => h
  | x :: xs, ys, h, h2 => by
    simp only [okds, Bool.and_eq_true] at h
    simp [okds, h.1, okds_app n xs ys h.2 h2]
theorem okds_int (n : Nat) (ps : List Int) : okds (n + 1) (ps.map D.int) = true := by
  induction ps with
  | nil => rfl
  | cons x r ih => simp [okds, okd, ih]
theorem okds_flat (n : Nat) (cs : List Cell) : okds (n + 1) (flat cs) = true := by
  induction cs with
  | nil => rfl
  | cons x r ih => simp [flat, okds, okd, ih]
theorem okd_prt (n : Nat) (p : Prt) (h : p.cs.length ≤ 1000) : okd (n + 2) p.d = true := by
  have := okds_flat n p.cs
  simp [Prt.d, Prt.xs, okd, okds, this, flat_len]
  omega
end K08

set_option Elab.async false
set_option linter.all false
set_option maxRecDepth 100000
set_option maxHeartbeats 1000000
namespace K08
open Cb Cb.Wm
open PySem (Str)
theorem oDiv120 {l : Int} (h : 1 ≤ l ∧ l ≤ 60) : oDiv (.int 120) (.int l) = some (.int (120 / l)) := by
  have := Nat.log2_le_self l.natAbs
  simp only [oDiv]
  rw [if_pos ⟨by omega, by omega⟩]
theorem div120 {l : Int} (h : 1 ≤ l ∧ l ≤ 60) : 2 ≤ 120 / l := by
  have : l * 2 ≤ 120 := by omega
  have h2 := Int.ediv_le_ediv (c := l) (by omega) this
  rw [Int.mul_ediv_cancel_left _ (by omega)] at h2
  exact h2
theorem mul120 {l w : Int} (h : 1 ≤ l) (hw : w ≤ 120 / l) : l * w ≤ 120 := by
  have h1 : l * w ≤ l * (120 / l) := Int.mul_le_mul_of_nonneg_left hw (by omega)
  have h2 := Int.mul_ediv_self_le (x := 120) (k := l) (by omega)
  omega
def SdOk (l w : Int) : Prop := (1 ≤ l ∧ l ≤ 60) ∧ (1 ≤ w ∧ w ≤ 60) ∧ 1 ≤ l * w ∧ l * w ≤ 120
theorem sides_W {N : Int} {J : Sto} : (F__law_sides [.ref 0] (.lst [.int N] :: J)).W (fun r s => ∃ l w n : Int, SdOk l w ∧ r = .lst [.int l, .int w] ∧ s = .lst [.int n] :: J) NX := by
  refine fn_W rfl ?_
  simp [B__law_sides, List.replicate]
  refine R.W.to (draw_W (by decide)) ?_
  rintro _ _ ⟨z, n, z1, z2, rfl, rfl⟩
  simp
  refine R.W.to (draw_W (by decide)) ?_
  rintro _ _ ⟨q, n, q1, q2, rfl, rfl⟩
  obtain ⟨l, hl, hl2⟩ : ∃ k : Int, oIx (.lst [.int (1 + z), .int 60, .int 12, .int 2]) (.int q) = some (.int k) ∧ 1 ≤ k ∧ k ≤ 60 := by
    have : q = 0 ∨ q = 1 ∨ q = 2 ∨ q = 3 := by omega
    rcases this with rfl | rfl | rfl | rfl
    · exact ⟨1 + z, rfl, by omega⟩
    · exact ⟨60, rfl, by decide⟩
    · exact ⟨12, rfl, by decide⟩
    · exact ⟨2, rfl, by decide⟩
  have hdv := oDiv120 hl2
  have hd2 := div120 hl2
  obtain ⟨c, hc, hc2⟩ : ∃ c : Int, cMin3 [.int 60, .int (120 / l), .int 10] = some (.int c) ∧ (1 ≤ c ∧ c ≤ 10) ∧ c ≤ 120 / l := by
    simp only [cMin3]
    by_cases h1 : 120 / l < 60
    · simp only [if_pos h1]
      by_cases h2 : (10 : Int) < 120 / l
      · exact ⟨10, by simp only [if_pos h2], by omega, by omega⟩
      · exact ⟨120 / l, by simp only [if_neg h2], by omega, by omega⟩
    · simp only [if_neg h1]
      exact ⟨10, by simp, by omega, by omega⟩
  simp [hl, hdv, hc]
  refine R.W.to (draw_W (by constructor <;> omega)) ?_
  rintro _ _ ⟨w, n, w1, w2, rfl, rfl⟩
  simp [D.gnds, D.gnd, finR]
  have := Int.mul_le_mul (a := 1) (b := 1) (c := l) (d := 1 + w) hl2.1 (by omega) (by decide) (by omega)
  exact ⟨hl2, by omega, by omega, mul120 hl2.1 (by omega)⟩
structure Kd where
  l : Int
  w : Int
  t : Bool
structure Rs where
  l : Int
  w : Int
def kRow (i : Nat) (x : Kd) : D := .lst [.str (letter (97 + i)), .int x.l, .int x.w, .bl x.t]
def rRow (i : Nat) (x : Rs) : D := .lst [.str (letter (114 + i)), .int x.l, .int x.w]
structure Dr where
  ks : List Kd
  rs : List Rs
  nd : Nat
  sg : D
structure Dr.Ok (d : Dr) : Prop where
  k : 1 ≤ d.ks.length ∧ d.ks.length ≤ 6
  r : d.rs.length ≤ 3
  n : 1 ≤ d.nd ∧ d.nd ≤ 3
  ks : ∀ k ∈ d.ks, SdOk k.l k.w
  rs : ∀ k ∈ d.rs, SdOk k.l k.w
  sg : d.sg = .non ∨ ∃ s : Int, d.sg = .int s ∧ 1 ≤ s ∧ s ≤ 8
def Dr.d (d : Dr) : D := .lst [.lst (rows kRow 0 d.ks), .lst (rows rRow 0 d.rs), .int d.nd, d.sg]
theorem abc (i : Nat) (h : i < 6) : oIx (.str (Str.ofString "abcdef")) (.int i) = some (.str (letter (97 + i))) :=
  oIx_str (l := List.range' 97 6) (by decide +kernel) i _ (by rw [List.getElem?_range' h]; simp) (by simp)
theorem rst (i : Nat) (h : i < 3) : oIx (.str (Str.ofString "rst")) (.int i) = some (.str (letter (114 + i))) :=
  oIx_str (l := List.range' 114 3) (by decide +kernel) i _ (by rw [List.getElem?_range' h]; simp) (by simp)
def ManyP (env : Env) (s : Sto) : Prop := ∃ (a b c n : Int), (1 ≤ a ∧ a ≤ 6) ∧ (0 ≤ b ∧ b ≤ 3) ∧ (1 ≤ c ∧ c ≤ 3) ∧ env = [some (.ref 0), some (.lst [.int a, .int b, .int c]), none, none, none, none] ∧ s = [.lst [.int n]]
theorem drawn (N : Int) : (F__law_drawn [.ref 0] [.lst [.int N]]).W (fun r s => ∃ (d : Dr) (n : Int), d.Ok ∧ r = d.d ∧ s = [.lst [.int n]]) NX := by
  refine fn_W rfl ?_
  simp [B__law_drawn, List.replicate, -s_if]
  refine R.W.to (draw_W (by decide)) ?_
  rintro _ _ ⟨a, n, a1, a2, rfl, rfl⟩
  simp [-s_if]
  refine R.W.to (draw_W (by decide)) ?_
  rintro _ _ ⟨b, n, b1, b2, rfl, rfl⟩
  simp [-s_if]
  refine R.W.to (draw_W (by decide)) ?_
  rintro _ _ ⟨c, n, c1, c2, rfl, rfl⟩
  simp [-s_if]
  refine S_meet (P := ManyP) ?_ ?_
  · simp
    refine R.W.to (draw_W (by decide)) ?_
    rintro _ _ ⟨e, n, e1, e2, rfl, rfl⟩
    simp
    refine ⟨fun he => ?_, fun he => ?_⟩
    · simp
      exact ⟨6, 3, 3, n, by decide, by decide, by decide, rfl, rfl⟩
    · simp
      exact ⟨1 + a, b, 1 + c, n, by omega, by omega, by omega, rfl, rfl⟩
  rintro _ _ ⟨a, b, c, n, ha, hb, hc, rfl, rfl⟩
  simp
  refine R.W.to (draw_W (by decide)) ?_
  rintro _ _ ⟨q, n, q1, q2, rfl, rfl⟩
  obtain ⟨sg, hs, hsg⟩ : ∃ k : D, oIx (.lst [.non, .non, .int 1, .int 3]) (.int q) = some k ∧ (k = .non ∨ ∃ s : Int, k = .int s ∧ 1 ≤ s ∧ s ≤ 8) := by
    have : q = 0 ∨ q = 1 ∨ q = 2 ∨ q = 3 := by omega
    rcases this with rfl | rfl | rfl | rfl
    · exact ⟨.non, rfl, .inl rfl⟩
    · exact ⟨.non, rfl, .inl rfl⟩
    · exact ⟨.int 1, rfl, .inr ⟨1, rfl, by decide⟩⟩
    · exact ⟨.int 3, rfl, .inr ⟨3, rfl, by decide⟩⟩
  have hsv : ∀ st : Sto, view st sg = sg := fun st => by rcases hsg with e | ⟨z, e, _⟩ <;> rw [e] <;> rfl
  have hsgd : sg.gnd = true := by rcases hsg with e | ⟨z, e, _⟩ <;> rw [e] <;> rfl
  obtain ⟨mb, rfl⟩ : ∃ m : Nat, b = m := ⟨b.toNat, by omega⟩
  obtain ⟨mc, rfl⟩ : ∃ m : Nat, c = m := ⟨c.toNat, by omega⟩
  have i0 : ∀ a b c : D, oIx (.lst [a, b, c]) (.int 0) = some a := fun _ _ _ => rfl
  have i1 : ∀ a b c : D, oIx (.lst [a, b, c]) (.int 1) = some b := fun _ _ _ => rfl
  have i2 : ∀ a b c : D, oIx (.lst [a, b, c]) (.int 2) = some c := fun _ _ _ => rfl
  simp [hs, i0, D.gnds]
  refine ⟨by omega, for_nat (by omega) (I := fun E k env s => ∃ (y4 : Option D) (n : Int) (ks : List Kd), env = E.set 4 y4 ∧ s = [.lst [.int n], .lst (rows kRow 0 ks)] ∧ ks.length = k ∧ ∀ x ∈ ks, SdOk x.l x.w) ⟨none, n, [], rfl, rfl, rfl, by simp⟩ ?_ ?_⟩
  · rintro k _ _ hk ⟨y4, n, ks, rfl, rfl, hkl, hks⟩
    refine ⟨_, rfl, ?_⟩
    have hp := abc k (by omega)
    simp [L__law_drawn_0, hp]
    refine R.W.to sides_W ?_
    rintro _ _ ⟨l, w, n, hlw, rfl, rfl⟩
    have h1 : oAdd (.lst [.str (letter (97 + k))]) (.lst [.int l, .int w]) = some (.lst [.str (letter (97 + k)), .int l, .int w]) := rfl
    have h2 : ∀ x : D, oAdd (.lst [.str (letter (97 + k)), .int l, .int w]) (.lst [x]) = some (.lst [.str (letter (97 + k)), .int l, .int w, x]) := fun _ => rfl
    simp [h1]
    refine R.W.to (draw_W (by decide)) ?_
    rintro _ _ ⟨e, n, e1, e2, rfl, rfl⟩
    simp [h2, D.gnd, D.gnds]
    refine ⟨by omega, n, ks ++ [⟨l, w, e == 1⟩], ⟨rfl, by rw [rows_snoc, Nat.zero_add, hkl]; rfl⟩, by simp [hkl], fun x hx => ?_⟩
    rcases List.mem_append.mp hx with hx | hx
    · exact hks x hx
    · rw [List.mem_singleton.mp hx]; exact hlw
  · rintro _ _ ⟨y4, n, ks, rfl, rfl, hkl, hks⟩
    simp [i1, rgD]
    refine ⟨by omega, lc_at [.lst [.int n], .dead] (by simp) (by simp) (lc_W (enc := fun i : Nat => D.int (i : Nat)) (I := fun pre acc s => ∃ (n : Int) (rs : List Rs), s = [.lst [.int n], .dead] ∧ rs.length = pre.length ∧ acc = rows rRow 0 rs ∧ ∀ x ∈ rs, SdOk x.l x.w) (by simp; omega) ⟨n, [], rfl, rfl, rfl, by simp⟩ ?_ ?_)⟩
    · rintro pre x post acc st1 hx hst ⟨n, rs, rfl, hrl, rfl, hrs⟩
      have hxi : x = pre.length := by
        have h1 : (List.range mb)[pre.length]? = some x := by rw [hx]; simp
        obtain ⟨h3, h4⟩ := (List.getElem?_eq_some_iff.mp h1)
        simpa using h4.symm
      have hxl : x < mb := by
        have h1 : x ∈ List.range mb := by rw [hx]; simp
        simpa using h1
      have hp := rst x (by omega)
      refine ⟨_, rfl, ?_⟩
      simp [C__law_drawn_0, hp]
      refine R.W.to sides_W ?_
      rintro _ _ ⟨l, w, n, hlw, rfl, rfl⟩
      have h1 : oAdd (.lst [.str (letter (114 + x))]) (.lst [.int l, .int w]) = some (.lst [.str (letter (114 + x)), .int l, .int w]) := rfl
      simp [h1]
      refine ⟨by simp [D.gnd, D.gnds], [.lst [.int n], .dead], rfl, rfl, ⟨n, rfl⟩, rs ++ [⟨l, w⟩], by simp [hrl], ?_, fun z hz => ?_⟩
      · rw [rows_snoc, Nat.zero_add, hrl, hxi]
        rfl
      · rcases List.mem_append.mp hz with hz | hz
        · exact hrs z hz
        · rw [List.mem_singleton.mp hz]; exact hlw
    rintro acc st1 hst ⟨n, rs, rfl, hrl, rfl, hrs⟩
    simp at hrl
    have hgk : D.gnds (rows kRow 0 ks) = true := rows_gnds kRow (fun k x => by simp [kRow, D.gnd, D.gnds]) _ _
    have hgr : D.gnds (rows rRow 0 rs) = true := rows_gnds rRow (fun k x => by simp [rRow, D.gnd, D.gnds]) _ _
    simp [i2, D.gnds, D.gnd, hsv, hgk, hgr, hsgd, finR]
    exact ⟨⟨ks, rs, mc, sg⟩, ⟨by dsimp only; omega, by dsimp only; omega, by dsimp only; omega, hks, hrs, hsg⟩, rfl⟩
end K08

set_option Elab.async false
set_option linter.all false
set_option maxRecDepth 100000
set_option maxHeartbeats 1000000
namespace K08
open Cb Cb.Wm
open PySem (Str)
theorem name1 {c : Nat} (h : 97 ≤ c ∧ c ≤ 122) : NameOk (letter c) := ⟨by simp, by simpa using h, by simp; omega⟩
theorem nameZ : NameOk (Str.ofString "z") := ⟨by decide +kernel, by decide +kernel, by decide +kernel⟩
def kObj (i : Nat) (x : Kd) : D := oKind (letter (97 + i)) x.l x.w 0 x.t
def rObj (i : Nat) (x : Rs) : D := oRest (letter (114 + i)) x.l x.w 0
abbrev bO0 : List D := [oBoard "z" 2 2 0 0 []]
def Dr.v (d : Dr) : DayV := (List.replicate d.ks.length (0, 0), [1])
def Dr.vs (d : Dr) : List DayV := List.replicate d.nd d.v
def Dr.kO (d : Dr) : List D := rows kObj 0 d.ks
def Dr.rO (d : Dr) : List D := rows rObj 0 d.rs
def Dr.sheet (d : Dr) : D := oSheet d.kO bO0 d.vs d.rO 0 d.sg 0
theorem rows_const {α : Type} (g : Nat → D) : ∀ (xs : List α) (k : Nat), rows (fun i _ => g i) k xs = (List.range' k xs.length).map g
  | [], _ => rfl
  | x :: r, k => by rw [rows, rows_const g r (k + 1), List.length_cons, List.range'_succ]; rfl
theorem nodup_names : ∀ K < 7, ∀ R < 4, (((List.range' 0 K).map (97 + ·)) ++ (122 :: (List.range' 0 R).map (114 + ·))).Nodup := by decide +kernel
theorem lz : letter 122 = Str.ofString "z" := by decide +kernel
theorem names {d : Dr} (h : d.Ok) : ∃ cs : List Str, (d.kO ++ (bO0 ++ d.rO)).map nameD = cs.map D.str ∧ cs.Nodup := by
  refine ⟨(((List.range' 0 d.ks.length).map (97 + ·)) ++ (122 :: (List.range' 0 d.rs.length).map (114 + ·))).map letter, ?_, ?_⟩
  · have e1 : d.kO.map nameD = (List.range' 0 d.ks.length).map fun i => D.str (letter (97 + i)) := by
      rw [← rows_const (fun i => D.str (letter (97 + i))) d.ks 0]
      exact rows_map _ _ _ (fun k x => rfl) _ _
    have e3 : d.rO.map nameD = (List.range' 0 d.rs.length).map fun i => D.str (letter (114 + i)) := by
      rw [← rows_const (fun i => D.str (letter (114 + i))) d.rs 0]
      exact rows_map _ _ _ (fun k x => rfl) _ _
    simp only [List.map_append, e1, e3, List.map_map, List.map_cons, lz, List.map_nil, List.cons_append, List.nil_append]
    rfl
  · have hk := h.k; have hr := h.r
    refine List.Pairwise.map _ (fun a b hne e => hne ?_) (nodup_names d.ks.length (by omega) d.rs.length (by omega))
    have := congrArg (fun s : Str => s.cps) e
    simpa using this
theorem v_ok {d : Dr} (h : d.Ok) : DayOk d.v := by
  have hk := h.k
  refine ⟨fun o ho => ?_, fun s hs => ?_, by simp [Dr.v]; omega⟩
  · rw [List.eq_of_mem_replicate ho]; decide
  · have : s = 1 := by simpa [Dr.v] using hs
    rw [this]; decide
theorem prod1 : ∀ (n : Nat) (k : Int), prodO (List.replicate n (0, 0)) k = k
  | 0, _ => rfl
  | n + 1, k => by rw [List.replicate_succ, prodO, prod1 n]; simp
theorem prodv (d : Dr) : ∀ (n : Nat) (k : Int), prodD (List.replicate n d.v) k = k
  | 0, _ => rfl
  | n + 1, k => by rw [List.replicate_succ, prodD, prodv d n]; exact prod1 _ _
theorem sheet_ok {d : Dr} (h : d.Ok) : SheetOk d.kO bO0 d.vs d.rO 0 d.sg 0 := by
  have hk := h.k; have hr := h.r; have hn := h.n
  refine ⟨by simp [Dr.kO]; omega, by simp, by simp [Dr.vs]; omega, by simp [Dr.rO]; omega, fun x hx => ?_, names h, rows_gnds _ (fun k x => by simp [kObj, D.gnd, D.gnds]) _ _, by simp [D.gnd, D.gnds], rows_gnds _ (fun k x => by simp [rObj, D.gnd, D.gnds]) _ _, fun v hv => ?_, ?_, ?_, by decide, h.sg, by decide⟩
  · have key : ∀ {α : Type} (f : Nat → α → D) (hf : ∀ k x, ∃ C fs xs, f k x = .obj C fs xs) (xs : List α) (k : Nat), x ∈ rows f k xs → ∃ C fs xs, x = .obj C fs xs := by
      intro α f hf xs
      induction xs with
      | nil => intro k h; cases h
      | cons y r ih =>
        intro k h
        rcases List.mem_cons.mp h with e | e
        · rw [e]; exact hf _ _
        · exact ih _ e
    rcases List.mem_append.mp hx with hx | hx
    · exact key _ (fun k x => ⟨_, _, _, rfl⟩) _ _ hx
    · rcases List.mem_append.mp hx with hx | hx
      · rw [List.mem_singleton.mp hx]
        exact ⟨_, _, _, rfl⟩
      · exact key _ (fun k x => ⟨_, _, _, rfl⟩) _ _ hx
  · rw [List.eq_of_mem_replicate hv]
    exact ⟨v_ok h, by simp [Dr.v, Dr.kO], by simp [Dr.v]⟩
  · rw [Dr.vs, prodv]; decide
  · have : d.nd = 1 ∨ d.nd = 2 ∨ d.nd = 3 := by omega
    rcases this with e | e | e <;> rw [Dr.vs, e] <;> simp [List.replicate, Dr.v]
theorem sheet_gnd {d : Dr} (h : d.Ok) : d.sheet.gnd = true := by
  have s := sheet_ok h
  have hsg : d.sg.gnd = true := by rcases h.sg with e | ⟨q, e, _⟩ <;> rw [e] <;> rfl
  simp [Dr.sheet, oSheet, D.gnd, D.gnds, s.gk, s.gb, s.gr, gnds_day, hsg]
theorem oMul_lst1 (d : D) (k : Int) (h : 0 ≤ k ∧ k ≤ 1000) : oMul (.lst [d]) (.int k) = some (.lst (List.replicate k.toNat d)) := by
  have : -1000000 ≤ k ∧ k ≤ 1000000 ∧ [d].length * k.toNat ≤ 1000000 := ⟨by omega, by omega, by simp; omega⟩
  simp only [oMul, this, if_true, flat_rep]
  simp
theorem built {d : Dr} (h : d.Ok) (st : Sto) : F__law_built [d.d] st = .ok d.sheet st := by
  have q0 : oIx d.d (.int 0) = some (.lst (rows kRow 0 d.ks)) := rfl
  have q1 : oIx d.d (.int 1) = some (.lst (rows rRow 0 d.rs)) := rfl
  have q2 : oIx d.d (.int 2) = some (.int d.nd) := rfl
  have q3 : oIx d.d (.int 3) = some d.sg := rfl
  have hv : ∀ st : Sto, view st d.d = d.d := fun _ => rfl
  have hm := fun st => mk_sheet (sheet_ok h) st
  have hgd := sheet_gnd h
  have hk := h.k; have hr := h.r; have hn := h.n
  have hbd := fun st => mk_board0 "z" 2 2 0 0 nameZ (by decide) (by decide) (by decide) (by decide) (by decide) st
  have hmd := fun st => mk_dayL d.v (v_ok h) st
  have hmul := oMul_lst1 (.tup [.int 0, .int 0]) (d.ks.length : Int) (by omega)
  have hv1 : d.v.1.map pr = List.replicate d.ks.length (.tup [.int 0, .int 0]) := by simp [Dr.v, pr]
  have hv2 : d.v.2.map D.int = [.int 1] := rfl
  have hsv : ∀ st : Sto, view st d.sg = d.sg := fun st => by rcases h.sg with e | ⟨z, e, _⟩ <;> rw [e] <;> rfl
  rw [hv1, hv2] at hmd
  simp at hmul
  have hgo := gnd_day d.v
  generalize d.d = dd at *
  refine W_eq (fn_W rfl ?_)
  simp [B__law_built, List.replicate, D.gnds, hv, q0]
  refine lc_at st (by simp) (by simp) (lc_rows (h := kObj) (by omega) (fun k x hx => ⟨by simp [kObj, D.gnd, D.gnds], _, rfl, fun acc => ?_⟩) ?_)
  · have hxo := h.ks x (List.mem_of_getElem? hx)
    have hk3 := (List.getElem?_eq_some_iff.mp hx).1
    obtain ⟨o1, o2, o3⟩ := hxo
    have hmk := fun st => mk_kind (letter (97 + k)) x.l x.w 0 x.t (name1 (by omega)) (by omega) (by omega) (by decide) st
    simp [C__law_built_0, kRow, oIx, ixD, perm, hmk, kObj]
  simp [hv, q1]
  refine lc_at st (by simp) (by simp) (lc_rows (h := rObj) (by omega) (fun k x hx => ⟨by simp [rObj, D.gnd, D.gnds], _, rfl, fun acc => ?_⟩) ?_)
  · have hxo := h.rs x (List.mem_of_getElem? hx)
    have hk3 := (List.getElem?_eq_some_iff.mp hx).1
    obtain ⟨o1, o2, o3⟩ := hxo
    have hmr := fun st => mk_rest (letter (114 + k)) x.l x.w 0 (name1 (by omega)) (by omega) (by omega) (by decide) o3 st
    simp [C__law_built_1, rRow, oIx, ixD, perm, hmr, rObj]
  simp [hv, q2, D.gnds]
  refine ⟨by omega, for_nat (by omega) (I := fun E k env s => ∃ y, env = E.set 4 y ∧ s = st ++ [.lst (List.replicate k (oDay d.v))]) ⟨_, rfl, rfl⟩ ?_ ?_⟩
  · rintro k _ _ hk2 ⟨y, rfl, rfl⟩
    refine ⟨_, rfl, ?_⟩
    rw [List.replicate_succ']
    simp [L__law_built_0, hv, q0, hmul, perm, hmd, hgo]
    omega
  · rintro _ _ ⟨y, rfl, rfl⟩
    have e1 : List.replicate d.nd (oDay d.v) = d.vs.map oDay := by rw [Dr.vs, List.map_replicate]
    have hm' := hm (st ++ [.dead])
    unfold Dr.kO Dr.rO at hm'
    simp [hbd, perm, hv, q3, e1, hm', hsv]
    have hgd' : (oSheet (rows kObj 0 d.ks) bO0 d.vs (rows rObj 0 d.rs) 0 d.sg 0).gnd = true := hgd
    simp [finR_gnd hgd', Dr.sheet, Dr.kO, Dr.rO]
end K08

set_option Elab.async false
set_option linter.all false
set_option maxRecDepth 100000
set_option maxHeartbeats 1000000
namespace K08
open Cb Cb.Wm
open PySem (Str)
structure PartOk (nd : Nat) (p : Prt) : Prop where
  day : 0 ≤ p.day ∧ p.day < nd
  len : p.cs.length ≤ 1
def StP (dd : D) (nd : Int) (sg : D) (env : Env) (s : Sto) : Prop := ∃ a b n : Int, env = [some (.ref 0), some dd, some (.int nd), some sg, some (.tup [.int a, .int b]), none, none, none, none, none, none, none, none, env.getD 13 none, none] ∧ env.length = 15 ∧ s = [.lst [.int n]]
def SdP (dd : D) (nd : Int) (sg : D) (env : Env) (s : Sto) : Prop := ∃ (a b x y n : Int) (J : Sto) (th row : D) (e13 : Option D), env = [some (.ref 0), some dd, some (.int nd), some sg, some (.tup [.int a, .int b]), some th, some row, some (.ref (J.length + 1)), none, none, none, none, none, e13, none] ∧ s = .lst [.int n] :: (J ++ [.lst [.int x, .int y]])
def MdP (dd : D) (nd : Int) (sg : D) (env : Env) (s : Sto) : Prop := ∃ (a b x y n : Int) (J : Sto) (th row m : D) (e8 e13 : Option D), env = [some (.ref 0), some dd, some (.int nd), some sg, some (.tup [.int a, .int b]), some th, some row, some (.lst [.int x, .int y]), e8, some m, none, none, none, e13, none] ∧ s = .lst [.int n] :: J
theorem part_W {d : Dr} (h : d.Ok) (N : Int) : (F__law_part [.ref 0, d.d] [.lst [.int N]]).W (fun r s => ∃ (p : Prt) (n : Int), PartOk d.nd p ∧ r = p.d ∧ s = [.lst [.int n]]) NX := by
  have q0 : oIx d.d (.int 0) = some (.lst (rows kRow 0 d.ks)) := rfl
  have q1 : oIx d.d (.int 1) = some (.lst (rows rRow 0 d.rs)) := rfl
  have q2 : oIx d.d (.int 2) = some (.int d.nd) := rfl
  have q3 : oIx d.d (.int 3) = some d.sg := rfl
  have hv : ∀ st : Sto, view st d.d = d.d := fun _ => rfl
  have hsv : ∀ st : Sto, view st d.sg = d.sg := fun st => by rcases h.sg with e | ⟨z, e, _⟩ <;> rw [e] <;> rfl
  have hk := h.k; have hr := h.r; have hn := h.n
  have hadd := oAdd_lst (rows kRow 0 d.ks) (rows rRow 0 d.rs) (by simp; omega)
  have hrow : ∀ q : Int, 0 ≤ q → q < (d.ks.length : Int) + d.rs.length → ∃ (row : D) (a b : Int), oIx (.lst (rows kRow 0 d.ks ++ rows rRow 0 d.rs)) (.int q) = some row ∧ (∀ st : Sto, view st row = row) ∧ oIx row (.int 1) = some (.int a) ∧ oIx row (.int 2) = some (.int b) := fun q h1 h2 => by
    obtain ⟨k, rfl⟩ : ∃ k : Nat, q = k := ⟨q.toNat, by omega⟩
    by_cases hk2 : k < d.ks.length
    · have hx := List.getElem?_eq_getElem hk2
      exact ⟨kRow k d.ks[k], _, _, oIx_lst (by rw [List.getElem?_append_left (by simpa using hk2), rows_at hx]), fun _ => rfl, rfl, rfl⟩
    · have hk3 : k - d.ks.length < d.rs.length := by omega
      have hx := List.getElem?_eq_getElem hk3
      exact ⟨rRow (k - d.ks.length) d.rs[k - d.ks.length], _, _, oIx_lst (by rw [List.getElem?_append_right (by simp; omega), rows_len, rows_at hx]), fun _ => rfl, rfl, rfl⟩
  generalize hdd : d.d = dd at *
  have hsg := h.sg
  generalize d.sg = sg at *
  refine fn_W rfl ?_
  simp [B__law_part, List.replicate, hv, q2, q3, -s_if]
  refine S_meet (P := StP dd d.nd sg) ?_ ?_
  · rcases hsg with rfl | ⟨z, rfl, hz⟩
    · simp [StP]
    · simp
      refine R.W.to (draw_W (by constructor <;> omega)) ?_
      rintro _ _ ⟨l, n, l1, l2, rfl, rfl⟩
      simp
      refine ⟨fun hl => ?_, fun hl => ?_⟩
      · simp
        refine R.W.to (draw_W (by decide)) ?_
        rintro _ _ ⟨w, n, w1, w2, rfl, rfl⟩
        simp [StP]
      · simp [StP]
  rintro env s ⟨a, b, n, he, hel, rfl⟩
  generalize env.getD 13 none = e13 at he
  subst he
  clear hel
  simp [hv, q0, q1, hadd, -s_if]
  refine R.W.to (draw_W (by constructor <;> omega)) ?_
  rintro _ _ ⟨q, n, q1', q2', rfl, rfl⟩
  obtain ⟨row, x, y, r0, r1, r2, r3⟩ := hrow q q1' (by omega)
  simp [r0, r1, r2, r3, D.gnds, D.gnd, -s_if]
  refine S_meet (P := SdP dd d.nd sg) ?_ ?_
  · simp
    refine R.W.to (draw_W (by decide)) ?_
    rintro _ _ ⟨q, n, q1', q2', rfl, rfl⟩
    simp
    refine ⟨fun hl => ?_, fun hl => ?_⟩
    · simp [r1, r2, r3, D.gnds, D.gnd]
      exact ⟨a, b, y, x, n, [.lst [.int x, .int y]], _, _, _, rfl, rfl⟩
    · simp
      exact ⟨a, b, x, y, n, [], _, _, _, rfl, rfl⟩
  clear r0 r1 r2 r3 hrow
  rintro _ _ ⟨a, b, x, y, n, J, th, row, e13, rfl, rfl⟩
  simp
  refine for_nat (by decide) (I := fun E k env s => ∃ (y8 : Option D) (x y n : Int), env = E.set 8 y8 ∧ s = .lst [.int n] :: (J ++ [.lst [.int x, .int y]])) ⟨_, x, y, n, rfl, rfl⟩ ?_ ?_
  · rintro k _ _ hk2 ⟨y8, x, y, n, rfl, rfl⟩
    refine ⟨_, rfl, ?_⟩
    have hk3 : k = 0 ∨ k = 1 := by omega
    have x0 : oIx (.lst [.int x, .int y]) (.int 0) = some (.int x) := rfl
    have x1 : oIx (.lst [.int x, .int y]) (.int 1) = some (.int y) := rfl
    rcases hk3 with rfl | rfl
    · simp [L__law_part_0, x0]
      refine R.W.to (draw_W (by decide)) ?_
      rintro _ _ ⟨q, n, q1', q2', rfl, rfl⟩
      simp [ixD, D.gnd]
    · simp [L__law_part_0, x1]
      refine R.W.to (draw_W (by decide)) ?_
      rintro _ _ ⟨q, n, q1', q2', rfl, rfl⟩
      simp [ixD, D.gnd]
  rintro _ _ ⟨y8, x, y, n, rfl, rfl⟩
  simp [-s_if]
  refine R.W.to (draw_W (by decide)) ?_
  rintro _ _ ⟨m, n, m1, m2, rfl, rfl⟩
  simp [-s_if]
  refine S_meet (P := MdP dd d.nd sg) ?_ ?_
  · simp
    refine ⟨fun hl => ?_, fun hl => ?_⟩
    · have : m = 5 ∨ m = 6 ∨ m = 7 := by omega
      rcases this with rfl | rfl | rfl
      · simp [oIx, ixD]
        exact ⟨a, b, 60, 2, n, _, _, _, _, _, _, rfl, rfl⟩
      · simp [oIx, ixD]
        exact ⟨a, b, 12, 10, n, _, _, _, _, _, _, rfl, rfl⟩
      · simp [oIx, ixD]
        exact ⟨a, b, 1, 1, n, _, _, _, _, _, _, rfl, rfl⟩
    · simp
      exact ⟨a, b, x, y, n, _, _, _, _, _, _, rfl, rfl⟩
  rintro _ _ ⟨a, b, x, y, n, J, th, row, m, e8, e13, rfl, rfl⟩
  have x0 : oIx (.lst [.int x, .int y]) (.int 0) = some (.int x) := rfl
  have x1 : oIx (.lst [.int x, .int y]) (.int 1) = some (.int y) := rfl
  obtain ⟨l, u1, hl1, hl2, hl3⟩ : ∃ l u : Int, cMax [.int x, .int 1] = some (.int u) ∧ cMin [.int u, .int 60] = some (.int l) ∧ 1 ≤ l ∧ l ≤ 60 := by
    simp only [cMax, cMin]
    by_cases c1 : (1 : Int) > x
    · simp only [if_pos c1]
      exact ⟨1, 1, rfl, rfl, by decide⟩
    · simp only [if_neg c1]
      by_cases c2 : (60 : Int) < x
      · exact ⟨60, x, rfl, by simp only [if_pos c2], by decide⟩
      · exact ⟨x, x, rfl, by simp only [if_neg c2], by omega⟩
  have hdv := oDiv120 hl3
  have hd2 := div120 hl3
  obtain ⟨w, u2, hw1, hw2, hw3⟩ : ∃ w u : Int, cMax [.int y, .int 1] = some (.int u) ∧ cMin3 [.int u, .int (120 / l), .int 60] = some (.int w) ∧ 1 ≤ w ∧ w ≤ 60 := by
    simp only [cMax, cMin3]
    obtain ⟨u, hu, hu1⟩ : ∃ u : Int, (if (1 : Int) > y then (1 : Int) else y) = u ∧ 1 ≤ u := by
      by_cases c1 : (1 : Int) > y
      · exact ⟨1, if_pos c1, by decide⟩
      · exact ⟨y, if_neg c1, by omega⟩
    rw [hu]
    refine ⟨_, u, rfl, rfl, ?_⟩
    split <;> split <;> omega
  simp [x0, x1, hl1, hl2, hdv, hw1, hw2, -s_if]
  refine R.W.to (draw_W (by constructor <;> omega)) ?_
  rintro _ _ ⟨dy, n, dy1, dy2, rfl, rfl⟩
  have hadd2 : oAdd (.tup [.int dy, .int l, .int w]) (.tup [.int a, .int b]) = some (Prt.mk dy l w a b []).d := by
    rw [oAdd_tup _ _ (by simp)]
    rfl
  simp [hadd2]
  refine R.W.to (draw_W (by decide)) ?_
  rintro _ _ ⟨q, n, q1', q2', rfl, rfl⟩
  simp
  refine ⟨fun hq => ?_, fun hq => ?_⟩
  · simp [D.gnds, D.gnd]
    refine R.W.to (draw_W (by constructor <;> omega)) ?_
    rintro _ _ ⟨cx, n, cx1, cx2, rfl, rfl⟩
    simp
    refine R.W.to (draw_W (by constructor <;> omega)) ?_
    rintro _ _ ⟨cy, n, cy1, cy2, rfl, rfl⟩
    simp [D.gnds, D.gnd]
    refine R.W.to (draw_W (by decide)) ?_
    rintro _ _ ⟨e, n, e1, e2, rfl, rfl⟩
    obtain ⟨c1, c2, hc⟩ : ∃ c1 c2 : Int, oIx (.lst [.tup [.int 0, .int 0], .tup [.int (l - 1), .int (w - 1)], .tup [.int cx, .int cy]]) (.int e) = some (.tup [.int c1, .int c2]) := by
      have : e = 0 ∨ e = 1 ∨ e = 2 := by omega
      rcases this with rfl | rfl | rfl <;> exact ⟨_, _, rfl⟩
    have hac := add_cell (Prt.mk dy l w a b []) c1 c2 (by simp)
    simp [hc, hac]
    exact ⟨_, ⟨⟨dy1, dy2⟩, by simp⟩, rfl⟩
  · simp
    exact ⟨_, ⟨⟨dy1, dy2⟩, by simp⟩, rfl⟩
end K08

set_option Elab.async false
set_option linter.all false
set_option maxRecDepth 100000
set_option maxHeartbeats 1000000
namespace K08
open Cb Cb.Wm
open PySem (Str)
theorem W_eqx {α : Type} {r : R α} {C : String} {fs : List String} {xs : List D} {st : Sto} (h : r.W (fun _ _ => False) (fun C' fs' xs' s => C' = C ∧ fs' = fs ∧ xs' = xs ∧ s = st)) : r = .exc C fs xs st := by
  cases r with
  | ok a s => rw [W_ok] at h; exact h.elim
  | exc C' fs' xs' s =>
    rw [W_exc] at h
    obtain ⟨rfl, rfl, rfl, rfl⟩ := h
    rfl
  | bad => rw [W_bad] at h; exact h.elim
abbrev noT (w : Str) (i : Int) (st : Sto) : R D := .exc "NoThing" ["what", "index"] [.str w, .int i] st
theorem fieldsT (w : Str) (i : Int) (st : Sto) : F_hot__law_fields [.exn "NoThing" ["what", "index"] [.str w, .int i]] st = .ok (.tup [.str "NoThing", .str w, .int i]) st := by
  have s0 : ∀ a b : D, oIx (.lst [a, b]) (.int 0) = some a := fun _ _ => rfl
  have s1 : ∀ a b : D, oIx (.lst [a, b]) (.int 1) = some b := fun _ _ => rfl
  refine W_eq (fn_W rfl ?_)
  simp [B_hot__law_fields, List.replicate, cIsx, isiC, isiA, isi1, ctF, pg, s0, s1, eXf, fldD, finR, D.gnd, D.gnds]
theorem fieldsK (st : Sto) : F_hot__law_fields [.exn "NoKeep" [] []] st = .ok (.tup [.str "NoKeep"]) st := by
  have s0 : ∀ a b : D, oIx (.lst [a, b]) (.int 0) = some a := fun _ _ => rfl
  have s1 : ∀ a b : D, oIx (.lst [a, b]) (.int 1) = some b := fun _ _ => rfl
  refine W_eq (fn_W rfl ?_)
  simp [B_hot__law_fields, List.replicate, cIsx, isiC, isiA, isi1, ctF, pg, s0, s1, eXf, fldD, finR, D.gnd, D.gnds]
theorem thing_no (xs : List D) (w : Str) (i : Int) (hw : w.length ≤ 1000) (hl : xs.length ≤ 1000) (h : ¬ (0 ≤ i ∧ i < xs.length)) (st : Sto) : F_thing_at [.tup xs, .str w, .int i] st = noT w i st := by
  refine W_eqx (fn_W rfl ?_)
  by_cases h0 : 0 ≤ i
  · have h1 : ¬ i < (xs.length : Int) := fun z => h ⟨h0, z⟩
    simp [B_thing_at, List.replicate, h0, h1, txtAt, hw, D.gnd, D.gnds]
  · simp [B_thing_at, List.replicate, h0, txtAt, hw, D.gnd, D.gnds]
section
variable {ks bs : List D} {vs : List DayV} {rs : List D} {kerf cost : Int} {sg : D}
theorem rest_no (i : Int) (hl : rs.length ≤ 1000) (h : ¬ (0 ≤ i ∧ i < rs.length)) (st : Sto) : F_rest_at [oSheet ks bs vs rs kerf sg cost, .int i] st = noT "rest" i st := by
  have ht := fun st => thing_no rs (Str.ofString "rest") i (by decide +kernel) hl h st
  refine W_eqx (fn_W rfl ?_)
  simp [B_rest_at, List.replicate, oSheet, attrD, pg, fldD, ht]
theorem kind_no (i : Int) (hl : ks.length ≤ 1000) (h : ¬ (0 ≤ i ∧ i < ks.length)) (st : Sto) : F_kind_at [oSheet ks bs vs rs kerf sg cost, .int i] st = noT "kind" i st := by
  have ht := fun st => thing_no ks (Str.ofString "kind") i (by decide +kernel) hl h st
  refine W_eqx (fn_W rfl ?_)
  simp [B_kind_at, List.replicate, oSheet, attrD, pg, fldD, ht]
end
theorem clean (p : Prt) (st : Sto) : F_is_clean [p.d] st = .ok (.bl (decide (p.cs = []))) st := by
  refine W_eq (fn_W rfl ?_)
  cases h : p.cs with
  | nil => simp [B_is_clean, List.replicate, h, finR, D.gnd]
  | cons c r =>
    have : ¬ (5 + 2 * ((r.length : Int) + 1) = 5) := by omega
    simp [B_is_clean, List.replicate, h, this, finR, D.gnd]
def fitV (x : Kd) (p : Prt) : Bool := decide (p.cs = []) && ((decide (x.l ≤ p.l) && decide (x.w ≤ p.w)) || (x.t && (decide (x.w ≤ p.l) && decide (x.l ≤ p.w))))
theorem fits_ok {d : Dr} (h : d.Ok) (p : Prt) (k : Nat) (x : Kd) (hx : d.ks[k]? = some x) (st : Sto) : F_fits [d.sheet, p.d, .int k] st = .ok (.bl (fitV x p)) st := by
  have hka : ∀ st, F_kind_at [d.sheet, .int (k : Nat)] st = .ok (kObj k x) st := fun st => kind_at (ks := d.kO) (bs := bO0) (vs := d.vs) (rs := d.rO) (kerf := 0) (cost := 0) (sg := d.sg) k (kObj k x) (rows_at hx) (by simp [kObj, D.gnd, D.gnds]) st
  have hcl := fun st => clean p st
  unfold fitV
  generalize d.sheet = sh at *
  by_cases hc : p.cs = []
  · by_cases hA : x.l ≤ p.l <;> by_cases hB : x.w ≤ p.w <;> by_cases hC : x.w ≤ p.l <;> by_cases hD : x.l ≤ p.w <;> cases ht : x.t <;>
      (refine W_eq (fn_W rfl ?_); simp [B_fits, List.replicate, hka, hcl, hc, hA, hB, hC, hD, ht, kObj, attrD, pg, fldD, finR, D.gnd])
  · refine W_eq (fn_W rfl ?_)
    simp [B_fits, List.replicate, hka, hcl, hc, finR, D.gnd]
theorem fitting_ok {d : Dr} (h : d.Ok) (p : Prt) (k : Nat) (x : Kd) (hx : d.ks[k]? = some x) (st : Sto) : F__law_fitting [d.d, p.d, .int k] st = .ok (.tup [.str "fits", .bl (fitV x p)]) st := by
  have q0 : oIx d.d (.int 0) = some (.lst (rows kRow 0 d.ks)) := rfl
  have hv : ∀ st : Sto, view st d.d = d.d := fun _ => rfl
  have hrow : oIx (.lst (rows kRow 0 d.ks)) (.int (k : Int)) = some (kRow k x) := oIx_lst (rows_at hx)
  have b1 : oIx (kRow k x) (.int 1) = some (.int x.l) := rfl
  have b2 : oIx (kRow k x) (.int 2) = some (.int x.w) := rfl
  have b3 : oIx (kRow k x) (.int 3) = some (.bl x.t) := rfl
  have kv : ∀ st, view st (kRow k x) = kRow k x := fun _ => rfl
  have hk := (List.getElem?_eq_some_iff.mp hx).1
  have n1 : ¬ (d.ks.length : Int) ≤ k := by omega
  have n3 : ¬ (k : Int) < 0 := by omega
  have hbq : ((5 + 2 * (p.cs.length : Int)) == 5) = decide (p.cs = []) := by
    cases h : p.cs with
    | nil => rfl
    | cons c r =>
      simp
      omega
  unfold fitV
  generalize d.d = dd at *
  by_cases hA : x.l ≤ p.l <;> by_cases hB : x.w ≤ p.w <;> by_cases hC : x.w ≤ p.l <;> by_cases hD : x.l ≤ p.w <;> cases ht : x.t <;>
    (refine W_eq (fn_W rfl ?_); simp [B__law_fitting, List.replicate, hv, q0, hrow, kv, b1, b2, b3, n1, n3, hbq, hA, hB, hC, hD, ht, finR, D.gnd, D.gnds])
theorem fitting_no {d : Dr} (p : Prt) (i : Int) (hi : ¬ (0 ≤ i ∧ i < d.ks.length)) (st : Sto) : F__law_fitting [d.d, p.d, .int i] st = .ok (.tup [.str "NoThing", .str "kind", .int i]) st := by
  have q0 : oIx d.d (.int 0) = some (.lst (rows kRow 0 d.ks)) := rfl
  have hv : ∀ st : Sto, view st d.d = d.d := fun _ => rfl
  generalize d.d = dd at *
  refine W_eq (fn_W rfl ?_)
  by_cases h0 : i < 0
  · simp [B__law_fitting, List.replicate, hv, q0, h0, finR, D.gnd, D.gnds]
  · have h1 : (d.ks.length : Int) ≤ i := by omega
    simp [B__law_fitting, List.replicate, hv, q0, h0, h1, finR, D.gnd, D.gnds]
theorem fit_of (sh : D) (p : Prt) (i : Int) (b : Bool) (h : ∀ st, F_fits [sh, p.d, .int i] st = .ok (.bl b) st) (st : Sto) : F__law_fit [sh, p.d, .int i] st = .ok (.tup [.str "fits", .bl b]) st := by
  refine W_eq (fn_W rfl ?_)
  by_cases hp : i = 1
  · subst hp
    simp [B__law_fit, List.replicate, perm, h, finR, D.gnd, D.gnds]
  · simp [B__law_fit, List.replicate, hp, h, finR, D.gnd, D.gnds]
theorem fit_no (sh : D) (p : Prt) (i : Int) (w : Str) (h : ∀ st, F_kind_at [sh, .int i] st = noT w i st) (st : Sto) : F__law_fit [sh, p.d, .int i] st = .ok (.tup [.str "NoThing", .str w, .int i]) st := by
  have hf : ∀ st, F_fits [sh, p.d, .int i] st = noT w i st := fun st => by
    refine W_eqx (fn_W rfl ?_)
    simp [B_fits, List.replicate, h]
  refine W_eq (fn_W rfl ?_)
  by_cases hp : i = 1
  · subst hp
    simp [B__law_fit, List.replicate, perm, hf, subT, sub_CutError, fieldsT, finR, D.gnd, D.gnds]
  · simp [B__law_fit, List.replicate, hp, hf, subT, sub_CutError, fieldsT, finR, D.gnd, D.gnds]
end K08

set_option Elab.async false
set_option linter.all false
set_option maxRecDepth 100000
set_option maxHeartbeats 1000000
namespace K08
open Cb Cb.Wm
open PySem (Str)
def partR (d : Dr) (j : Int) (x : Rs) : Prt := Prt.mk j x.l x.w (leftOf d.sg) 0 []
theorem rest_ok {d : Dr} (h : d.Ok) (k j : Nat) (x : Rs) (hx : d.rs[k]? = some x) (hj : j < d.nd) (st : Sto) : F_rest_part [d.sheet, .int k, .int j] st = .ok (partR d j x).d st := by
  have hg : (rObj k x).gnd = true := by simp [rObj, D.gnd, D.gnds]
  have hr : ∀ st, F_rest_at [d.sheet, .int (k : Nat)] st = .ok (rObj k x) st := fun st => rest_at (ks := d.kO) (bs := bO0) (vs := d.vs) (rs := d.rO) (kerf := 0) (cost := 0) (sg := d.sg) k (rObj k x) (rows_at hx) hg st
  have hda := fun st => day_at (ks := d.kO) (bs := bO0) (vs := d.vs) (rs := d.rO) (kerf := 0) (cost := 0) (sg := d.sg) j (by simp [Dr.vs]; omega) st
  have hf : ∀ st, F_first_left [d.sheet] st = .ok (.int (leftOf d.sg)) st := fun st => first_left (ks := d.kO) (bs := bO0) (vs := d.vs) (rs := d.rO) (kerf := 0) (cost := 0) (sg := d.sg) h.sg st
  have hp := fun st => part_from (j : Int) x.l x.w (leftOf d.sg) 0 [] (by simp) st
  obtain ⟨dd, hdd⟩ := hda st
  have hdd' : F_day_at [d.sheet, .int (j : Nat)] st = .ok dd st := hdd
  unfold partR
  generalize d.sheet = sh at *
  simp at hp
  refine W_eq (fn_W rfl ?_)
  simp [B_rest_part, List.replicate, hr, hdd', hf, rObj, attrD, pg, fldD, hp]
def KeepOk (d : Dr) (p : Prt) (x : Rs) : Prop := p.day + 1 < d.nd ∧ p.cs = [] ∧ x.l ≤ p.l ∧ x.w ≤ p.w
instance (d : Dr) (p : Prt) (x : Rs) : Decidable (KeepOk d p x) := by unfold KeepOk; infer_instance
theorem keeping_no {d : Dr} (p : Prt) (i : Int) (hi : ¬ (0 ≤ i ∧ i < d.rs.length)) (st : Sto) : F__law_keeping [d.d, p.d, .int i] st = .ok (.tup [.str "NoThing", .str "rest", .int i]) st := by
  have q1 : oIx d.d (.int 1) = some (.lst (rows rRow 0 d.rs)) := rfl
  have hv : ∀ st : Sto, view st d.d = d.d := fun _ => rfl
  generalize d.d = dd at *
  refine W_eq (fn_W rfl ?_)
  by_cases h0 : i < 0
  · simp [B__law_keeping, List.replicate, hv, q1, h0, finR, D.gnd, D.gnds]
  · have h1 : (d.rs.length : Int) ≤ i := by omega
    simp [B__law_keeping, List.replicate, hv, q1, h0, h1, finR, D.gnd, D.gnds]
def keptD (d : Dr) (p : Prt) (x : Rs) : D := if KeepOk d p x then .tup [.str "kept", (partR d (p.day + 1) x).d] else .tup [.str "NoKeep"]
theorem keeping_ok {d : Dr} (h : d.Ok) (p : Prt) (k : Nat) (x : Rs) (hx : d.rs[k]? = some x) (st : Sto) : F__law_keeping [d.d, p.d, .int k] st = .ok (keptD d p x) st := by
  have q1 : oIx d.d (.int 1) = some (.lst (rows rRow 0 d.rs)) := rfl
  have q2 : oIx d.d (.int 2) = some (.int d.nd) := rfl
  have q3 : oIx d.d (.int 3) = some d.sg := rfl
  have hv : ∀ st : Sto, view st d.d = d.d := fun _ => rfl
  have hrow : oIx (.lst (rows rRow 0 d.rs)) (.int (k : Int)) = some (rRow k x) := oIx_lst (rows_at hx)
  have b1 : oIx (rRow k x) (.int 1) = some (.int x.l) := rfl
  have b2 : oIx (rRow k x) (.int 2) = some (.int x.w) := rfl
  have kv : ∀ st, view st (rRow k x) = rRow k x := fun _ => rfl
  have hk := (List.getElem?_eq_some_iff.mp hx).1
  have n1 : ¬ (d.rs.length : Int) ≤ k := by omega
  have n3 : ¬ (k : Int) < 0 := by omega
  have hp0 : (partR d (p.day + 1) x).d = .tup [.int (p.day + 1), .int x.l, .int x.w, .int (leftOf d.sg), .int 0] := rfl
  unfold keptD
  by_cases hD : p.day + 1 < d.nd
  · have hD' : ¬ (d.nd : Int) ≤ p.day + 1 := by omega
    by_cases hc : p.cs = []
    · by_cases hA : x.l ≤ p.l
      · have hA' : ¬ p.l < x.l := by omega
        by_cases hB : x.w ≤ p.w
        · have hB' : ¬ p.w < x.w := by omega
          rw [if_pos ⟨hD, hc, hA, hB⟩, hp0]
          rcases h.sg with e | ⟨z, e, _⟩
          · rw [e] at q3 ⊢
            generalize d.d = dd at *
            refine W_eq (fn_W rfl ?_)
            simp [B__law_keeping, List.replicate, hv, q1, q2, q3, hrow, kv, b1, b2, n1, n3, hD', hc, hA', hB', leftOf, finR, D.gnd, D.gnds]
          · rw [e] at q3 ⊢
            generalize d.d = dd at *
            refine W_eq (fn_W rfl ?_)
            simp [B__law_keeping, List.replicate, hv, q1, q2, q3, hrow, kv, b1, b2, n1, n3, hD', hc, hA', hB', leftOf, finR, D.gnd, D.gnds]
        · have hB' : p.w < x.w := by omega
          rw [if_neg (fun z => hB z.2.2.2)]
          generalize d.d = dd at *
          refine W_eq (fn_W rfl ?_)
          simp [B__law_keeping, List.replicate, hv, q1, q2, hrow, kv, b1, b2, n1, n3, hD', hc, hA', hB', finR, D.gnd, D.gnds]
      · have hA' : p.l < x.l := by omega
        rw [if_neg (fun z => hA z.2.2.1)]
        generalize d.d = dd at *
        refine W_eq (fn_W rfl ?_)
        simp [B__law_keeping, List.replicate, hv, q1, q2, hrow, kv, b1, b2, n1, n3, hD', hc, hA', finR, D.gnd, D.gnds]
    · have hcl : ¬ (5 + 2 * (p.cs.length : Int) ≤ 5) := by
        have : p.cs.length ≠ 0 := fun z => hc (List.length_eq_zero_iff.mp z)
        omega
      have hcl2 : (5 : Int) < 5 + 2 * (p.cs.length : Int) := by omega
      rw [if_neg (fun z => hc z.2.1)]
      generalize d.d = dd at *
      refine W_eq (fn_W rfl ?_)
      simp [B__law_keeping, List.replicate, hv, q1, q2, hrow, kv, b1, b2, n1, n3, hD', hc, hcl, hcl2, finR, D.gnd, D.gnds]
  · have hD' : (d.nd : Int) ≤ p.day + 1 := by omega
    rw [if_neg (fun z => hD z.1)]
    generalize d.d = dd at *
    refine W_eq (fn_W rfl ?_)
    simp [B__law_keeping, List.replicate, hv, q1, q2, hrow, kv, b1, b2, n1, n3, hD', finR, D.gnd, D.gnds]
end K08

set_option Elab.async false
set_option linter.all false
set_option maxRecDepth 100000
set_option maxHeartbeats 1000000
namespace K08
open Cb Cb.Wm
open PySem (Str)
theorem holds_ok (p : Prt) (k : Nat) (x : Rs) (st : Sto) : F_holds_rest [p.d, rObj k x] st = .ok (.bl (decide (p.cs = []) && (decide (x.l ≤ p.l) && decide (x.w ≤ p.w)))) st := by
  have hcl := fun st => clean p st
  by_cases hc : p.cs = []
  · by_cases hA : x.l ≤ p.l <;> by_cases hB : x.w ≤ p.w <;> (refine W_eq (fn_W rfl ?_); simp [B_holds_rest, List.replicate, hcl, hc, hA, hB, rObj, attrD, pg, fldD, finR, D.gnd])
  · refine W_eq (fn_W rfl ?_)
    simp [B_holds_rest, List.replicate, hcl, hc, finR, D.gnd]
theorem kept_ok {d : Dr} (h : d.Ok) (p : Prt) (hp : PartOk d.nd p) (k : Nat) (x : Rs) (hx : d.rs[k]? = some x) (st : Sto) : F_kept_part [d.sheet, p.d, .int k] st = if KeepOk d p x then .ok (partR d (p.day + 1) x).d st else .exc "NoKeep" [] [] st := by
  have hr : ∀ st, F_rest_at [d.sheet, .int (k : Nat)] st = .ok (rObj k x) st := fun st => rest_at (ks := d.kO) (bs := bO0) (vs := d.vs) (rs := d.rO) (kerf := 0) (cost := 0) (sg := d.sg) k (rObj k x) (rows_at hx) (by simp [rObj, D.gnd, D.gnds]) st
  have hh := fun st => holds_ok p k x st
  have hday := hp.day
  obtain ⟨j, hj⟩ : ∃ j : Nat, p.day + 1 = j := ⟨(p.day + 1).toNat, by omega⟩
  have hrp := fun hj st => rest_ok h k j x hx hj st
  have ha : attrD pg "Sheet" "days" ["kinds", "boards", "days", "rests", "kerf", "stages", "cut_cost"] [.tup d.kO, .tup bO0, .tup (d.vs.map oDay), .tup d.rO, .int 0, d.sg, .int 0] = some (.tup (d.vs.map oDay)) := by simp [attrD, pg, fldD]
  have hsh : d.sheet = .obj "Sheet" ["kinds", "boards", "days", "rests", "kerf", "stages", "cut_cost"] [.tup d.kO, .tup bO0, .tup (d.vs.map oDay), .tup d.rO, .int 0, d.sg, .int 0] := rfl
  have hvl : d.vs.length = d.nd := by simp [Dr.vs]
  rw [hj]
  by_cases hD : p.day + 1 < d.nd
  · have hn : ¬ ((d.nd : Int) ≤ (j : Int)) := by omega
    have hrp := hrp (by omega)
    by_cases hK : (decide (p.cs = []) && (decide (x.l ≤ p.l) && decide (x.w ≤ p.w))) = true
    · have hK' : KeepOk d p x := by
        simp at hK
        exact ⟨hD, hK.1, hK.2.1, hK.2.2⟩
      rw [if_pos hK']
      rw [hK] at hh
      rw [hsh] at hr hrp ⊢
      refine W_eq (fn_W rfl ?_)
      simp [B_kept_part, List.replicate, hr, hj, ha, hvl, hn, hh, hrp]
    · have hK' : ¬ KeepOk d p x := fun z => hK (by simp [z.2.1, z.2.2.1, z.2.2.2])
      rw [if_neg hK']
      have hKf : (decide (p.cs = []) && (decide (x.l ≤ p.l) && decide (x.w ≤ p.w))) = false := by simpa using hK
      rw [hKf] at hh
      rw [hsh] at hr ⊢
      refine W_eqx (fn_W rfl ?_)
      simp [B_kept_part, List.replicate, hr, hj, ha, hvl, hn, hh, txt0, D.gnds]
  · have hn : (d.nd : Int) ≤ (j : Int) := by omega
    rw [if_neg (fun z => hD z.1)]
    rw [hsh] at hr ⊢
    refine W_eqx (fn_W rfl ?_)
    simp [B_kept_part, List.replicate, hr, hj, ha, hvl, hn, txt0, D.gnds]
theorem law_kept_ok {d : Dr} (h : d.Ok) (p : Prt) (hp : PartOk d.nd p) (k : Nat) (x : Rs) (hx : d.rs[k]? = some x) (st : Sto) : F__law_kept [d.sheet, p.d, .int k] st = .ok (keptD d p x) st := by
  have hk := fun st => kept_ok h p hp k x hx st
  unfold keptD
  generalize d.sheet = sh at *
  by_cases hK : KeepOk d p x
  · simp only [hK, if_true] at hk ⊢
    refine W_eq (fn_W rfl ?_)
    by_cases hq : (k : Int) = 1
    · rw [hq] at hk ⊢
      simp [B__law_kept, List.replicate, perm, hk, finR, D.gnd, D.gnds]
    · simp [B__law_kept, List.replicate, hq, hk, finR, D.gnd, D.gnds]
  · simp only [hK, if_false] at hk ⊢
    refine W_eq (fn_W rfl ?_)
    by_cases hq : (k : Int) = 1
    · rw [hq] at hk ⊢
      simp [B__law_kept, List.replicate, perm, hk, subT, sub_CutError, fieldsK, finR, D.gnd, D.gnds]
    · simp [B__law_kept, List.replicate, hq, hk, subT, sub_CutError, fieldsK, finR, D.gnd, D.gnds]
theorem law_kept_no (sh : D) (p : Prt) (i : Int) (w : Str) (h : ∀ st, F_rest_at [sh, .int i] st = noT w i st) (st : Sto) : F__law_kept [sh, p.d, .int i] st = .ok (.tup [.str "NoThing", .str w, .int i]) st := by
  have hf : ∀ st, F_kept_part [sh, p.d, .int i] st = noT w i st := fun st => by
    refine W_eqx (fn_W rfl ?_)
    simp [B_kept_part, List.replicate, h]
  refine W_eq (fn_W rfl ?_)
  by_cases hp : i = 1
  · subst hp
    simp [B__law_kept, List.replicate, perm, hf, subT, sub_CutError, fieldsT, finR, D.gnd, D.gnds]
  · simp [B__law_kept, List.replicate, hp, hf, subT, sub_CutError, fieldsT, finR, D.gnd, D.gnds]
theorem both {d : Dr} (h : d.Ok) (p : Prt) (hp : PartOk d.nd p) (i : Int) : ∃ W V, okd 8 W = true ∧ okd 8 V = true ∧ (∀ st, F__law_fitting [d.d, p.d, .int i] st = .ok W st) ∧ (∀ st, F__law_fit [d.sheet, p.d, .int i] st = .ok W st) ∧ (∀ st, F__law_keeping [d.d, p.d, .int i] st = .ok V st) ∧ (∀ st, F__law_kept [d.sheet, p.d, .int i] st = .ok V st) := by
  have hk := h.k; have hr := h.r
  obtain ⟨W, w1, w2, w3⟩ : ∃ W, okd 8 W = true ∧ (∀ st, F__law_fitting [d.d, p.d, .int i] st = .ok W st) ∧ (∀ st, F__law_fit [d.sheet, p.d, .int i] st = .ok W st) := by
    by_cases hi : 0 ≤ i ∧ i < d.ks.length
    · obtain ⟨k, rfl⟩ : ∃ n : Nat, i = n := ⟨i.toNat, by omega⟩
      obtain ⟨x, hx⟩ : ∃ x, d.ks[k]? = some x := ⟨_, List.getElem?_eq_getElem (by omega)⟩
      exact ⟨_, by simp [okd, okds], fitting_ok h p k x hx, fit_of _ _ _ _ (fits_ok h p k x hx)⟩
    · exact ⟨_, by simp [okd, okds], fitting_no p i hi, fit_no _ _ _ _ fun st => kind_no (ks := d.kO) (bs := bO0) (vs := d.vs) (rs := d.rO) (kerf := 0) (cost := 0) (sg := d.sg) i (by simp [Dr.kO]; omega) (by simpa [Dr.kO] using hi) st⟩
  obtain ⟨V, v1, v2, v3⟩ : ∃ V, okd 8 V = true ∧ (∀ st, F__law_keeping [d.d, p.d, .int i] st = .ok V st) ∧ (∀ st, F__law_kept [d.sheet, p.d, .int i] st = .ok V st) := by
    by_cases hi : 0 ≤ i ∧ i < d.rs.length
    · obtain ⟨k, rfl⟩ : ∃ n : Nat, i = n := ⟨i.toNat, by omega⟩
      obtain ⟨x, hx⟩ : ∃ x, d.rs[k]? = some x := ⟨_, List.getElem?_eq_getElem (by omega)⟩
      have ho := okd_prt 5 (partR d (p.day + 1) x) (by simp [partR])
      refine ⟨_, ?_, keeping_ok h p k x hx, law_kept_ok h p hp k x hx⟩
      unfold keptD
      split <;> simp [okd, okds, ho]
    · exact ⟨_, by simp [okd, okds], keeping_no p i hi, law_kept_no _ _ _ _ fun st => rest_no (ks := d.kO) (bs := bO0) (vs := d.vs) (rs := d.rO) (kerf := 0) (cost := 0) (sg := d.sg) i (by simp [Dr.rO]; omega) (by simpa [Dr.rO] using hi) st⟩
  exact ⟨W, V, w1, v1, w2, w3, v2, v3⟩
theorem main (ns : List Int) (hl : ns.length ≤ 63) : ∃ st, F_law [.scr (ns.map D.int)] [] = .ok (.bl true) st := by
  obtain ⟨N, e1⟩ := pool ns hl
  refine W_ex (fn_W rfl ?_)
  simp [B_law, List.replicate, e1]
  refine R.W.to (drawn N) ?_
  rintro _ _ ⟨d, n, hd, rfl, rfl⟩
  have hbu := fun st => built hd st
  have hpw := fun N => part_W hd N
  have hbo := fun p hp i => both hd p hp i
  have hv : ∀ st : Sto, view st d.d = d.d := fun _ => rfl
  have hv2 : ∀ st : Sto, view st d.sheet = d.sheet := fun _ => rfl
  generalize d.sheet = sh at *
  generalize d.d = dd at *
  simp [hbu]
  refine for_nat (by decide) (I := fun E k env s => ∃ (y4 y5 y6 y7 : Option D) (n : Int), env = ((((E.set 4 y4).set 5 y5).set 6 y6).set 7 y7) ∧ s = [.lst [.int n]]) ⟨_, _, _, _, n, rfl, rfl⟩ ?_ ?_
  · rintro k _ _ hk ⟨y4, y5, y6, y7, n, rfl, rfl⟩
    refine ⟨_, rfl, ?_⟩
    simp [L_law_1]
    refine R.W.to (hpw n) ?_
    rintro _ _ ⟨p, n, hp, rfl, rfl⟩
    have hcl := fun st => clean p st
    have hbq : ((5 + 2 * (p.cs.length : Int)) == 5) = decide (p.cs = []) := by
      cases h : p.cs with
      | nil => rfl
      | cons c r =>
        simp
        omega
    have hS := fun st => same 8 (.bl (decide (p.cs = []))) (.bl (decide (p.cs = []))) st rfl rfl
    have hadd : oAdd (.lst (rgD (-1) 7)) (.lst [.int 1000000000000000000000000000000]) = some (.lst ([-1, 0, 1, 2, 3, 4, 5, 6, 1000000000000000000000000000000].map D.int)) := rfl
    simp [hcl, hbq, hS, oPow, hadd, D.gnds, D.gnd]
    refine for_map (enc := D.int) (xs := [-1, 0, 1, 2, 3, 4, 5, 6, 1000000000000000000000000000000]) (I := fun E pre env s => ∃ (y6 y7 : Option D), env = (E.set 6 y6).set 7 y7 ∧ s = [.lst [.int n]]) ⟨_, _, rfl, rfl⟩ ?_ ?_
    · rintro pre i post _ _ hx ⟨y6, y7, rfl, rfl⟩
      refine ⟨_, rfl, ?_⟩
      obtain ⟨W, V, w1, v1, w2, w3, v2, v3⟩ := hbo p hp i
      have hvW := fun st => okd_view w1 st
      have hvV := fun st => okd_view v1 st
      have hSW := fun st => same 8 W W st w1 (hvW st)
      have hSV := fun st => same 8 V V st v1 (hvV st)
      simp [L_law_0, w2, w3, v2, v3, hSW, hSV]
    · rintro _ _ ⟨y6, y7, rfl, rfl⟩
      simp
  · rintro _ _ ⟨y4, y5, y6, y7, n, rfl, rfl⟩
    simp [finR, D.gnd]
end K08

set_option Elab.async false
set_option linter.all false
set_option maxRecDepth 100000
set_option maxHeartbeats 0
/-! K08_H: the head. -/
namespace K08
open Cb
open PySem PySem.Spec PyProof.Rows L2
def dd__law_pool : He.DefD := ⟨("_law_pool", none), "_law_pool", "_law_pool", defArgs s__law_pool, defBody s__law_pool, defScope s__law_pool, [], []⟩
def dd__law_draw : He.DefD := ⟨("_law_draw", none), "_law_draw", "_law_draw", defArgs s__law_draw, defBody s__law_draw, defScope s__law_draw, [], []⟩
def dd__law_sides : He.DefD := ⟨("_law_sides", none), "_law_sides", "_law_sides", defArgs s__law_sides, defBody s__law_sides, defScope s__law_sides, [], []⟩
def dd__law_drawn : He.DefD := ⟨("_law_drawn", none), "_law_drawn", "_law_drawn", defArgs s__law_drawn, defBody s__law_drawn, defScope s__law_drawn, [], []⟩
def dd_is_name : He.DefD := ⟨("is_name", none), "is_name", "is_name", defArgs s_is_name, defBody s_is_name, defScope s_is_name, [], []⟩
def dd_check_name : He.DefD := ⟨("check_name", none), "check_name", "check_name", defArgs s_check_name, defBody s_check_name, defScope s_check_name, [], []⟩
def dd_in_range : He.DefD := ⟨("in_range", none), "in_range", "in_range", defArgs s_in_range, defBody s_in_range, defScope s_in_range, [], []⟩
def dd_check_sides : He.DefD := ⟨("check_sides", none), "check_sides", "check_sides", defArgs s_check_sides, defBody s_check_sides, defScope s_check_sides, [], []⟩
def dd_init_Kind : He.DefD := ⟨("Kind", some "__init__"), "__init__", "Kind.__init__", defArgs s_init_Kind, defBody s_init_Kind, defScope s_init_Kind, [.int 0], [("turns", .bl false)]⟩
def dd_init_Rest : He.DefD := ⟨("Rest", some "__init__"), "__init__", "Rest.__init__", defArgs s_init_Rest, defBody s_init_Rest, defScope s_init_Rest, [.int 0], []⟩
def dd_init_Day : He.DefD := ⟨("Day", some "__init__"), "__init__", "Day.__init__", defArgs s_init_Day, defBody s_init_Day, defScope s_init_Day, [], []⟩
def dd_check_many : He.DefD := ⟨("check_many", none), "check_many", "check_many", defArgs s_check_many, defBody s_check_many, defScope s_check_many, [], []⟩
def dd_check_names : He.DefD := ⟨("check_names", none), "check_names", "check_names", defArgs s_check_names, defBody s_check_names, defScope s_check_names, [], []⟩
def dd_check_days : He.DefD := ⟨("check_days", none), "check_days", "check_days", defArgs s_check_days, defBody s_check_days, defScope s_check_days, [], []⟩
def dd_count_lots : He.DefD := ⟨("count_lots", none), "count_lots", "count_lots", defArgs s_count_lots, defBody s_count_lots, defScope s_count_lots, [], []⟩
def dd_init_Sheet : He.DefD := ⟨("Sheet", some "__init__"), "__init__", "Sheet.__init__", defArgs s_init_Sheet, defBody s_init_Sheet, defScope s_init_Sheet, [], [("rests", .adr (kwdAt ("Sheet", some "__init__") "rests")), ("kerf", .int 0), ("stages", .non), ("cut_cost", .int 0)]⟩
def dd_ascending_cells : He.DefD := ⟨("ascending_cells", none), "ascending_cells", "ascending_cells", defArgs s_ascending_cells, defBody s_ascending_cells, defScope s_ascending_cells, [], []⟩
def dd_init_Board : He.DefD := ⟨("Board", some "__init__"), "__init__", "Board.__init__", defArgs s_init_Board, defBody s_init_Board, defScope s_init_Board, [], [("trim", .int 0), ("faults", .adr (kwdAt ("Board", some "__init__") "faults"))]⟩
def dd__law_built : He.DefD := ⟨("_law_built", none), "_law_built", "_law_built", defArgs s__law_built, defBody s__law_built, defScope s__law_built, [], []⟩
def dd__law_part : He.DefD := ⟨("_law_part", none), "_law_part", "_law_part", defArgs s__law_part, defBody s__law_part, defScope s__law_part, [], []⟩
def dd__law_same : He.DefD := ⟨("_law_same", none), "_law_same", "_law_same", defArgs s__law_same, defBody s__law_same, defScope s__law_same, [], []⟩
def dd_is_clean : He.DefD := ⟨("is_clean", none), "is_clean", "is_clean", defArgs s_is_clean, defBody s_is_clean, defScope s_is_clean, [], []⟩
def dd__law_fitting : He.DefD := ⟨("_law_fitting", none), "_law_fitting", "_law_fitting", defArgs s__law_fitting, defBody s__law_fitting, defScope s__law_fitting, [], []⟩
def xd_x_NoThing : XD := ⟨fun K => (He.ma K (He.ga K "NoThing") "__init__"), "__init__", "NoThing.__init__", defArgs s_x_NoThing, defBody s_x_NoThing, defScope s_x_NoThing, ["__class__"]⟩
def dd_thing_at : He.DefD := ⟨("thing_at", none), "thing_at", "thing_at", defArgs s_thing_at, defBody s_thing_at, defScope s_thing_at, [], []⟩
def dd_kind_at : He.DefD := ⟨("kind_at", none), "kind_at", "kind_at", defArgs s_kind_at, defBody s_kind_at, defScope s_kind_at, [], []⟩
def dd_fits : He.DefD := ⟨("fits", none), "fits", "fits", defArgs s_fits, defBody s_fits, defScope s_fits, [], []⟩
def dd_hot__law_fields : He.DefD := ⟨("_law_fields", none), "_law_fields", "_law_fields", defArgs s_hot__law_fields, defBody s_hot__law_fields, defScope s_hot__law_fields, [], []⟩
def dd__law_fit : He.DefD := ⟨("_law_fit", none), "_law_fit", "_law_fit", defArgs s__law_fit, defBody s__law_fit, defScope s__law_fit, [], []⟩
def dd__law_keeping : He.DefD := ⟨("_law_keeping", none), "_law_keeping", "_law_keeping", defArgs s__law_keeping, defBody s__law_keeping, defScope s__law_keeping, [], []⟩
def dd_rest_at : He.DefD := ⟨("rest_at", none), "rest_at", "rest_at", defArgs s_rest_at, defBody s_rest_at, defScope s_rest_at, [], []⟩
def dd_holds_rest : He.DefD := ⟨("holds_rest", none), "holds_rest", "holds_rest", defArgs s_holds_rest, defBody s_holds_rest, defScope s_holds_rest, [], []⟩
def xd_x_NoKeep : XD := ⟨fun K => (He.ma K (He.ga K "NoKeep") "__init__"), "__init__", "NoKeep.__init__", defArgs s_x_NoKeep, defBody s_x_NoKeep, defScope s_x_NoKeep, ["__class__"]⟩
def dd_day_at : He.DefD := ⟨("day_at", none), "day_at", "day_at", defArgs s_day_at, defBody s_day_at, defScope s_day_at, [], []⟩
def dd_part_from : He.DefD := ⟨("part_from", none), "part_from", "part_from", defArgs s_part_from, defBody s_part_from, defScope s_part_from, [], []⟩
def dd_first_left : He.DefD := ⟨("first_left", none), "first_left", "first_left", defArgs s_first_left, defBody s_first_left, defScope s_first_left, [], []⟩
def dd_rest_part : He.DefD := ⟨("rest_part", none), "rest_part", "rest_part", defArgs s_rest_part, defBody s_rest_part, defScope s_rest_part, [], []⟩
def dd_kept_part : He.DefD := ⟨("kept_part", none), "kept_part", "kept_part", defArgs s_kept_part, defBody s_kept_part, defScope s_kept_part, [], []⟩
def dd__law_kept : He.DefD := ⟨("_law_kept", none), "_law_kept", "_law_kept", defArgs s__law_kept, defBody s__law_kept, defScope s__law_kept, [], []⟩
def dd_law : He.DefD := ⟨("law", none), "law", "law", defArgs s_law, defBody s_law, defScope s_law, [], []⟩
def fn : List He.DefD := [dd__law_pool, dd__law_draw, dd__law_sides, dd__law_drawn, dd_is_name, dd_check_name, dd_in_range, dd_check_sides, dd_init_Kind, dd_init_Rest, dd_init_Day, dd_check_many, dd_check_names, dd_check_days, dd_count_lots, dd_init_Sheet, dd_ascending_cells, dd_init_Board, dd__law_built, dd__law_part, dd__law_same, dd_is_clean, dd__law_fitting, dd_thing_at, dd_kind_at, dd_fits, dd_hot__law_fields, dd__law_fit, dd__law_keeping, dd_rest_at, dd_holds_rest, dd_day_at, dd_part_from, dd_first_left, dd_rest_part, dd_kept_part, dd__law_kept, dd_law]
def fx : List XD := [xd_x_NoThing, xd_x_NoKeep]
def fa : List He.Fa := ([.free "int", .free "abs", .free "len", .free "range", .free "min", .free "tuple", .free "enumerate", .free "sum", .free "sorted", .free "max", .free "bool", .free "isinstance", .free "str", .free "list", .free "super", .free "ValueError", .glo "_law_pool", .glo "_law_draw", .glo "_law_sides", .glo "_law_drawn", .glo "is_name", .glo "check_name", .glo "in_range", .glo "check_sides", .glo "Kind"] : List He.Fa) ++ ([.glo "Rest", .glo "Day", .glo "check_many", .glo "check_names", .glo "check_days", .glo "count_lots", .glo "Sheet", .glo "ascending_cells", .glo "Board", .glo "_law_built", .glo "_law_part", .glo "_law_same", .glo "is_clean", .glo "_law_fitting", .glo "CutError", .glo "NoThing", .glo "thing_at", .glo "kind_at", .glo "fits", .glo "OutOfRange", .glo "NoName", .glo "NoCut", .glo "NoKeep", .glo "_law_fields", .glo "_law_fit"] : List He.Fa) ++ ([.glo "_law_keeping", .glo "rest_at", .glo "holds_rest", .glo "day_at", .glo "part_from", .glo "first_left", .glo "rest_part", .glo "kept_part", .glo "_law_kept", .glo "law", .int "MOST_CHARACTERS" 8, .str "LETTERS" "abcdefghijklmnopqrstuvwxyz", .str "LETTERS_AND_DIGITS" "abcdefghijklmnopqrstuvwxyz0123456789", .int "MOST_SIDE" 60, .int "MOST_COST" 1000000000, .int "MOST_AREA" 120, .int "MOST_HIGH" 6, .int "MOST_SUPPLY" 6, .int "MOST_KINDS" 6, .int "MOST_BOARD_SORTS" 4, .int "MOST_DAYS" 3, .int "MOST_RESTS" 3, .int "MOST_KERF" 20, .int "MOST_STAGES" 8, .int "MOST_FAULTS" 4] : List He.Fa) ++ ([.int "FIRST_CELL" 5, .mkr "Kind", .mkr "Rest", .mkr "Day", .mkr "Sheet", .mkr "Board"] : List He.Fa)
def ex (K : PySem.W.Frag) : Bool := POk.chk K pg && (emptyB K (kwdAt ("Sheet", some "__init__") "rests" K) && (emptyB K (kwdAt ("Board", some "__init__") "faults" K) && (exiB K PySem.Challenge.pw_cutboards_k08_pieces_fit.main.file (gaC K "NoThing") (He.ma K (He.ga K "NoThing") "__init__") && (exiB K PySem.Challenge.pw_cutboards_k08_pieces_fit.main.file (gaC K "NoKeep") (He.ma K (He.ga K "NoKeep") "__init__") && (subB K "CutError" sub_CutError)))))
abbrev R : PySem.W.OpenRow := PySem.W.OpenLaw.row PySem.Challenge.rw_cutboards_k08_pieces_fit
def loose_ : List PySem.Str := (["_wall", "__name__", "CutError", "BadName", "OutOfRange", "BadCount", "BadCell", "SameName", "WrongWidth", "TooMany", "NoName", "NoThing", "BadLine", "NoCut", "NoKeep", "thing_at", "kind_at", "rest_at", "day_at", "FIRST_CELL", "is_clean", "part_from", "first_left", "rest_part", "fits", "holds_rest", "kept_part", "LETTERS", "LETTERS_AND_DIGITS", "MOST_CHARACTERS"] : List PySem.Str) ++ (["MOST_SIDE", "MOST_AREA", "MOST_COST", "is_name", "check_name", "in_range", "check_sides", "MOST_FAULTS", "ascending_cells", "Board", "MOST_HIGH", "MOST_SUPPLY", "Day", "Kind", "Rest", "DIGITS", "MOST_PLAIN_DIGITS", "is_written", "read_plain", "SORTS", "read_numbers", "read_pairs", "saw_values", "kind_values", "board_values", "rest_values", "day_values", "READERS", "follows", "line_rows"] : List PySem.Str) ++ (["made_kind", "made_board", "parsed_sheet", "kind_line", "board_line", "rest_line", "day_line", "saw_line", "sheet_lines", "MOST_KINDS", "MOST_BOARD_SORTS", "MOST_DAYS", "MOST_RESTS", "MOST_KERF", "MOST_STAGES", "check_many", "check_names", "check_days", "count_lots", "Sheet", "_law_pool", "_law_draw", "_law_same", "_law_sides", "_law_drawn", "_law_built", "_law_part", "_law_fields", "_law_fitting", "_law_keeping"] : List PySem.Str) ++ (["_law_fit", "_law_kept"] : List PySem.Str)
def as_ : (Addr → Option Obj) → List Addr := asR "_wall" [1010, 1053, 1179, 1200, 1242, 1263, 1272, 1279, 1286, 1293, 1300, 1307, 1314, 1321, 1328, 1335, 1342, 1349, 1356, 1363, 1370, 1375, 1417, 1443, 1473, 1502, 1651, 1656, 1663, 1670, 1732, 1741, 1748, 1755, 1762, 1767, 1772, 1779, 1786, 1793, 1800, 1807, 1814, 1821, 1009, 1199, 1262, 1271, 1278, 1285, 1292, 1299, 1306, 1313, 1320, 1327, 1334, 1341, 1348, 1355, 1362, 1369, 1374, 1416, 1442, 1472, 1501, 1650, 1655, 1662, 1669, 1731, 1740, 1747, 1754, 1761, 1766, 1771, 1778, 1785, 1792, 1799, 1806, 1813, 1820, 1197, 1260, 1391, 1433, 1463, 1492, 1684, 1196, 1185, 1259, 1248, 1390, 1384, 1432, 1462, 1455, 1456, 1491, 1485, 1683, 1679, 1383, 1678]
abbrev hk : PySem.W.Hook := hookX as_ fa fn fx ex
def ob (s : PySem.W.SharedT) : He.AlD × List FnX × Bool := obsX (as_ (HandSHeadRun.getT s)) fa fn fx ex (HandSHeadRun.getT s)
theorem ob_eq (s : PySem.W.SharedT) : ob s = hk.obs s.abs := obsX_eq (HandSHeadRun.getT_eq s)
theorem run0 (w : World) : HandSHeadRun.RunEq R (PySem.W.view R.prog [103]) hk ob 7680 loose_ (w.withFollow "special-get-raises" false) := by
  intro os
  kernel_rfl
theorem run1 (w : World) : HandSHeadRun.RunEq R (PySem.W.view R.prog [103]) hk ob 7680 loose_ (w.withFollow "special-get-raises" true) := by
  intro os
  kernel_rfl
theorem run (w : World) : HandSHeadRun.RunEq R (PySem.W.view R.prog [103]) hk ob 7680 loose_ w :=
  PySem.W.byRow2 "special-get-raises" (P := fun w => HandSHeadRun.RunEq R (PySem.W.view R.prog [103]) hk ob 7680 loose_ w) run0 run1 w
theorem txt_of {K : PySem.W.Frag} {h : Heap} {mg : Str → Option Value} (X : K.In h) (G : h.Ns mainGlobals mg) (c : SaysX fa fn fx ex K) : Txt K mg := by
  have hx : ex K = true := c.ex
  obtain ⟨hp, hz0⟩ := Bool.and_eq_true_iff.mp hx
  obtain ⟨he1, hz1⟩ := Bool.and_eq_true_iff.mp hz0
  obtain ⟨he2, hz2⟩ := Bool.and_eq_true_iff.mp hz1
  obtain ⟨he3, hz3⟩ := Bool.and_eq_true_iff.mp hz2
  obtain ⟨he4, he5⟩ := Bool.and_eq_true_iff.mp hz3
  exact ⟨POk.of hp,
    He.free_ok X G (c.d.fact 0 (f := .free "int") rfl),
    He.free_ok X G (c.d.fact 1 (f := .free "abs") rfl),
    He.free_ok X G (c.d.fact 2 (f := .free "len") rfl),
    He.free_ok X G (c.d.fact 3 (f := .free "range") rfl),
    He.free_ok X G (c.d.fact 4 (f := .free "min") rfl),
    He.free_ok X G (c.d.fact 5 (f := .free "tuple") rfl),
    He.free_ok X G (c.d.fact 6 (f := .free "enumerate") rfl),
    He.free_ok X G (c.d.fact 7 (f := .free "sum") rfl),
    He.free_ok X G (c.d.fact 8 (f := .free "sorted") rfl),
    He.free_ok X G (c.d.fact 9 (f := .free "max") rfl),
    He.free_ok X G (c.d.fact 10 (f := .free "bool") rfl),
    He.free_ok X G (c.d.fact 11 (f := .free "isinstance") rfl),
    He.free_ok X G (c.d.fact 12 (f := .free "str") rfl),
    He.free_ok X G (c.d.fact 13 (f := .free "list") rfl),
    He.free_ok X G (c.d.fact 14 (f := .free "super") rfl),
    He.free_ok X G (c.d.fact 15 (f := .free "ValueError") rfl),
    He.glo_ok X G (c.d.fact 16 (f := .glo "_law_pool") rfl),
    He.glo_ok X G (c.d.fact 17 (f := .glo "_law_draw") rfl),
    He.glo_ok X G (c.d.fact 18 (f := .glo "_law_sides") rfl),
    He.glo_ok X G (c.d.fact 19 (f := .glo "_law_drawn") rfl),
    He.glo_ok X G (c.d.fact 20 (f := .glo "is_name") rfl),
    He.glo_ok X G (c.d.fact 21 (f := .glo "check_name") rfl),
    He.glo_ok X G (c.d.fact 22 (f := .glo "in_range") rfl),
    He.glo_ok X G (c.d.fact 23 (f := .glo "check_sides") rfl),
    He.glo_ok X G (c.d.fact 24 (f := .glo "Kind") rfl),
    He.glo_ok X G (c.d.fact 25 (f := .glo "Rest") rfl),
    He.glo_ok X G (c.d.fact 26 (f := .glo "Day") rfl),
    He.glo_ok X G (c.d.fact 27 (f := .glo "check_many") rfl),
    He.glo_ok X G (c.d.fact 28 (f := .glo "check_names") rfl),
    He.glo_ok X G (c.d.fact 29 (f := .glo "check_days") rfl),
    He.glo_ok X G (c.d.fact 30 (f := .glo "count_lots") rfl),
    He.glo_ok X G (c.d.fact 31 (f := .glo "Sheet") rfl),
    He.glo_ok X G (c.d.fact 32 (f := .glo "ascending_cells") rfl),
    He.glo_ok X G (c.d.fact 33 (f := .glo "Board") rfl),
    He.glo_ok X G (c.d.fact 34 (f := .glo "_law_built") rfl),
    He.glo_ok X G (c.d.fact 35 (f := .glo "_law_part") rfl),
    He.glo_ok X G (c.d.fact 36 (f := .glo "_law_same") rfl),
    He.glo_ok X G (c.d.fact 37 (f := .glo "is_clean") rfl),
    He.glo_ok X G (c.d.fact 38 (f := .glo "_law_fitting") rfl),
    He.glo_ok X G (c.d.fact 39 (f := .glo "CutError") rfl),
    He.glo_ok X G (c.d.fact 40 (f := .glo "NoThing") rfl),
    He.glo_ok X G (c.d.fact 41 (f := .glo "thing_at") rfl),
    He.glo_ok X G (c.d.fact 42 (f := .glo "kind_at") rfl),
    He.glo_ok X G (c.d.fact 43 (f := .glo "fits") rfl),
    He.glo_ok X G (c.d.fact 44 (f := .glo "OutOfRange") rfl),
    He.glo_ok X G (c.d.fact 45 (f := .glo "NoName") rfl),
    He.glo_ok X G (c.d.fact 46 (f := .glo "NoCut") rfl),
    He.glo_ok X G (c.d.fact 47 (f := .glo "NoKeep") rfl),
    He.glo_ok X G (c.d.fact 48 (f := .glo "_law_fields") rfl),
    He.glo_ok X G (c.d.fact 49 (f := .glo "_law_fit") rfl),
    He.glo_ok X G (c.d.fact 50 (f := .glo "_law_keeping") rfl),
    He.glo_ok X G (c.d.fact 51 (f := .glo "rest_at") rfl),
    He.glo_ok X G (c.d.fact 52 (f := .glo "holds_rest") rfl),
    He.glo_ok X G (c.d.fact 53 (f := .glo "day_at") rfl),
    He.glo_ok X G (c.d.fact 54 (f := .glo "part_from") rfl),
    He.glo_ok X G (c.d.fact 55 (f := .glo "first_left") rfl),
    He.glo_ok X G (c.d.fact 56 (f := .glo "rest_part") rfl),
    He.glo_ok X G (c.d.fact 57 (f := .glo "kept_part") rfl),
    He.glo_ok X G (c.d.fact 58 (f := .glo "_law_kept") rfl),
    He.glo_ok X G (c.d.fact 59 (f := .glo "law") rfl),
    He.int_ok X G (c.d.fact 60 (f := .int "MOST_CHARACTERS" 8) rfl),
    He.str_ok X G (c.d.fact 61 (f := .str "LETTERS" "abcdefghijklmnopqrstuvwxyz") rfl),
    He.str_ok X G (c.d.fact 62 (f := .str "LETTERS_AND_DIGITS" "abcdefghijklmnopqrstuvwxyz0123456789") rfl),
    He.int_ok X G (c.d.fact 63 (f := .int "MOST_SIDE" 60) rfl),
    He.int_ok X G (c.d.fact 64 (f := .int "MOST_COST" 1000000000) rfl),
    He.int_ok X G (c.d.fact 65 (f := .int "MOST_AREA" 120) rfl),
    He.int_ok X G (c.d.fact 66 (f := .int "MOST_HIGH" 6) rfl),
    He.int_ok X G (c.d.fact 67 (f := .int "MOST_SUPPLY" 6) rfl),
    He.int_ok X G (c.d.fact 68 (f := .int "MOST_KINDS" 6) rfl),
    He.int_ok X G (c.d.fact 69 (f := .int "MOST_BOARD_SORTS" 4) rfl),
    He.int_ok X G (c.d.fact 70 (f := .int "MOST_DAYS" 3) rfl),
    He.int_ok X G (c.d.fact 71 (f := .int "MOST_RESTS" 3) rfl),
    He.int_ok X G (c.d.fact 72 (f := .int "MOST_KERF" 20) rfl),
    He.int_ok X G (c.d.fact 73 (f := .int "MOST_STAGES" 8) rfl),
    He.int_ok X G (c.d.fact 74 (f := .int "MOST_FAULTS" 4) rfl),
    He.int_ok X G (c.d.fact 75 (f := .int "FIRST_CELL" 5) rfl),
    c.d.def_ 0 (d := dd__law_pool) rfl,
    c.d.def_ 1 (d := dd__law_draw) rfl,
    c.d.def_ 2 (d := dd__law_sides) rfl,
    c.d.def_ 3 (d := dd__law_drawn) rfl,
    c.d.def_ 4 (d := dd_is_name) rfl,
    c.d.def_ 5 (d := dd_check_name) rfl,
    c.d.def_ 6 (d := dd_in_range) rfl,
    c.d.def_ 7 (d := dd_check_sides) rfl,
    c.d.def_ 8 (d := dd_init_Kind) rfl,
    c.d.def_ 9 (d := dd_init_Rest) rfl,
    c.d.def_ 10 (d := dd_init_Day) rfl,
    c.d.def_ 11 (d := dd_check_many) rfl,
    c.d.def_ 12 (d := dd_check_names) rfl,
    c.d.def_ 13 (d := dd_check_days) rfl,
    c.d.def_ 14 (d := dd_count_lots) rfl,
    c.d.def_ 15 (d := dd_init_Sheet) rfl,
    he1,
    c.d.def_ 16 (d := dd_ascending_cells) rfl,
    c.d.def_ 17 (d := dd_init_Board) rfl,
    he2,
    c.d.def_ 18 (d := dd__law_built) rfl,
    c.d.def_ 19 (d := dd__law_part) rfl,
    c.d.def_ 20 (d := dd__law_same) rfl,
    c.d.def_ 21 (d := dd_is_clean) rfl,
    c.d.def_ 22 (d := dd__law_fitting) rfl,
    exi_of (c.xd 0 (d := xd_x_NoThing) rfl).1 (c.xd 0 (d := xd_x_NoThing) rfl).2 rfl he3,
    c.d.def_ 23 (d := dd_thing_at) rfl,
    c.d.def_ 24 (d := dd_kind_at) rfl,
    c.d.def_ 25 (d := dd_fits) rfl,
    c.d.def_ 26 (d := dd_hot__law_fields) rfl,
    c.d.def_ 27 (d := dd__law_fit) rfl,
    c.d.def_ 28 (d := dd__law_keeping) rfl,
    c.d.def_ 29 (d := dd_rest_at) rfl,
    c.d.def_ 30 (d := dd_holds_rest) rfl,
    exi_of (c.xd 1 (d := xd_x_NoKeep) rfl).1 (c.xd 1 (d := xd_x_NoKeep) rfl).2 rfl he4,
    c.d.def_ 31 (d := dd_day_at) rfl,
    c.d.def_ 32 (d := dd_part_from) rfl,
    c.d.def_ 33 (d := dd_first_left) rfl,
    c.d.def_ 34 (d := dd_rest_part) rfl,
    c.d.def_ 35 (d := dd_kept_part) rfl,
    c.d.def_ 36 (d := dd__law_kept) rfl,
    c.d.def_ 37 (d := dd_law) rfl,
    he5,
    He.mkr_ok (c.d.fact 76 (f := .mkr "Kind") rfl),
    He.mkr_ok (c.d.fact 77 (f := .mkr "Rest") rfl),
    He.mkr_ok (c.d.fact 78 (f := .mkr "Day") rfl),
    He.mkr_ok (c.d.fact 79 (f := .mkr "Sheet") rfl),
    He.mkr_ok (c.d.fact 80 (f := .mkr "Board") rfl)⟩
theorem glo_law {K : PySem.W.Frag} {h : Heap} {mg : Str → Option Value} (X : K.In h) (G : h.Ns mainGlobals mg) (c : SaysX fa fn fx ex K) : mg "law" = some (.ref (He.ga K "law")) := He.glo_ok X G (c.d.fact 59 (f := .glo "law") rfl)
end K08

set_option Elab.async false
set_option linter.all false
set_option maxRecDepth 100000
set_option maxHeartbeats 0
open PySem PySem.W PySem.Calls PyProof.Rows
theorem PySem.Challenge.cw_cutboards_k08_pieces_fit_holds : PySem.Challenge.rw_cutboards_k08_pieces_fit.Holds := by
  w_on; o_law
  refine HandSHeadRun.head_any (r := OpenLaw.row PySem.Challenge.rw_cutboards_k08_pieces_fit) (q := view (OpenLaw.row PySem.Challenge.rw_cutboards_k08_pieces_fit).prog [103]) (H := K08.hk) (ob := K08.ob) (M := 7680) (loose := K08.loose_) (d := HandSHeadRun.topDef (OpenLaw.row PySem.Challenge.rw_cutboards_k08_pieces_fit).prog 103) (kwd := []) K08.ob_eq
    (by kernel_rfl) (fun s => by kernel_rfl) K08.run (by kernel_rfl) (by kernel_rfl) (by kernel_rfl) (by rfl) (by first | assumption | decide +kernel) (by decide +kernel) ⟨rfl, rfl, rfl, rfl, rfl, by decide +kernel⟩ ?hw ?hc
  case hw => w_witness2
  case hc =>
    refine L2.walk_ofE (l := PySem.Challenge.rw_cutboards_k08_pieces_fit) (n := 63) (k := 9) (x := "script") (CX := L2.CX0) rfl (by decide) (by kernel_rfl) ⟨rfl, by decide, by decide⟩ ?F (fun _ _ _ _ z => z)
    intro w mg fa h Y G hmg0
    obtain ⟨K, KX, c⟩ := Y
    have hmg : mg ("law" : PySem.Str) = some (.ref fa) := by
      have e : (HandSHeadRun.topDef (OpenLaw.row PySem.Challenge.rw_cutboards_k08_pieces_fit).prog 103).name = ("law" : PySem.Str) := by kernel_rfl
      rw [← e]
      exact hmg0
    have T := K08.txt_of KX G c
    haveI : Cb.SupP (PySem.Challenge.rw_cutboards_k08_pieces_fit).prog PySem.Challenge.pw_cutboards_k08_pieces_fit.main.file := ⟨by kernel_rfl, by kernel_rfl⟩
    obtain ⟨fd, F⟩ := T.d_law
    have e := hmg.symm.trans T.g_law
    cases e
    have b := L2.FunD.bindsA (ps := ["script"]) F fun _ _ _ _ _ _ us hl => match us, hl with | [_], _ => rfl
    refine ⟨K, fd, _, KX, fun s v => b s [v] rfl, fun H a ns hl _ hS => ?_, fun base _ _ => Cb.fn0 (K08.fn_law (P := (PySem.Challenge.rw_cutboards_k08_pieces_fit).prog) (w := w) T F)⟩
    obtain ⟨st, e⟩ := K08.main ns hl
    exact Cb.law_sp hS e
