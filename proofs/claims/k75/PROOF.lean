import PyProof.Rows.All
import Wide.All
import OpenK.AllK
import Wide.FinOn
import HandS.HeadHook4
import HandS.HeadHook3
import HandS.HeadHook2
import HandS.Ends
import HandS.EndBits
import KE.KUnpackStar
import HandS.Walk
import HandS.StrMore
import HandS.RaiseMore
import HandS.Codes
import HandS.AnyAll
import HandS.Deep
import HandS.TupAny
import HandS.Flow
import HandS.ForMost
import HandS.WordsExc
import HandS.Defaults
import HandS.IsInst
import HandS.Wide
import HandS.More
import PyProof.StrLawsRepr
import KE.KStateDown
import Lean
import HandS.Head0
import HandS.Head1
import HandS.Head2
import HandS.HeadEnd
import HandS.HeadHook1
import PySem.Challenge.RW_numberedlines_k75_expressions_written_an
/-! text DnA -/
set_option maxHeartbeats 1000000
/-! Dn, part A: deep values, a small heap, and what pieces of Python do with them. Plain Lean. -/
set_option linter.all false
namespace Dn
abbrev Tx := List Nat
/-- a written text -/
def S (s : String) : Tx := s.toList.map Char.toNat
theorem S_inj {a b : String} : S a = S b ↔ a = b := by
  constructor
  · intro h
    have h2 : a.toList = b.toList := by
      unfold S at h
      exact List.map_inj_right (fun x y e => Char.toNat_inj.mp e) |>.mp h
    exact String.toList_inj.mp h2
  · intro h
    rw [h]
/-- keys of dicts -/
inductive Ky where
  | i (n : Int) | s (t : Tx)
  deriving DecidableEq
/-- deep values -/
inductive D where
  | non | bl (b : Bool) | int (i : Int) | str (t : Tx) | ty (n : String) | glb (x : String)
  | scr (ns : List Int) | loc (n : Nat)
  | tup (ds : List D) | lst (ds : List D) | dic (ks : List Ky) (ds : List D) | tab (ks : List Ky) (ds : List D)
/-- what stands in the small heap -/
inductive O where
  | lst (ds : List D) | dic (ks : List Ky) (ds : List D) | ins (C : String) (fs : List String) (ds : List D)
abbrev Hh := List (Option O)
abbrev Env := List (Option D)
/-- an exception: of an own class or a built-in one, its fields -/
structure Xn where
  cls : String
  fs : List String
  ds : List D
/-- how a piece ends: with a value, an exception, or nothing is said -/
inductive R (α : Type) where
  | ok (a : α) (h : Hh) | exc (x : Xn) (h : Hh) | no
def R.bind {α β : Type} (r : R α) (f : α → Hh → R β) : R β := match r with
  | .ok a h => f a h
  | .exc x h => .exc x h
  | .no => .no
@[simp] theorem R.bind_ok {α β : Type} (a : α) (h : Hh) (f : α → Hh → R β) : (R.ok a h).bind f = f a h := rfl
@[simp] theorem R.bind_exc {α β : Type} (x : Xn) (h : Hh) (f : α → Hh → R β) : (R.exc x h).bind f = .exc x h := rfl
@[simp] theorem R.bind_no {α β : Type} (f : α → Hh → R β) : (R.no : R α).bind f = .no := rfl
theorem R.bind_assoc {α β γ : Type} (r : R α) (f : α → Hh → R β) (g : β → Hh → R γ) : (r.bind f).bind g = r.bind fun a h => (f a h).bind g := by
  cases r <;> rfl
/-- how a statement ends -/
inductive RS where
  | nx (e : Env) (h : Hh) | rt (d : D) (h : Hh) | bk (e : Env) (h : Hh) | ct (e : Env) (h : Hh) | exc (x : Xn) (e : Env) (h : Hh) | no
abbrev DE := Env → Hh → R D
abbrev DT := Env → Hh → R Bool
abbrev DA := Env → Hh → R (List D)
abbrev DS := Env → Hh → RS
abbrev DG := D → Env → Hh → R Env
abbrev Fn := List D → Hh → R D
/-- the line of sizes -/
def big : Nat := 2 ^ 24

/-! ### truth, equality, order -/
def truth : D → Hh → Option Bool
  | .non, _ => some false
  | .bl b, _ => some b
  | .int i, _ => some (i != 0)
  | .str t, _ => some (!t.isEmpty)
  | .tup ds, _ => some (!ds.isEmpty)
  | .lst ds, _ => some (!ds.isEmpty)
  | .dic ks _, _ => some (!ks.isEmpty)
  | .loc n, h => match h[n]? with
    | some (some (.lst ds)) => some (!ds.isEmpty)
    | some (some (.dic ks _)) => some (!ks.isEmpty)
    | _ => none
  | _, _ => none
mutual
def eqv : D → D → Bool
  | .non, .non => true
  | .bl a, .bl b => a == b
  | .bl a, .int j => (if a then 1 else 0) == j
  | .int i, .bl b => i == (if b then 1 else 0)
  | .int i, .int j => i == j
  | .str s, .str t => s == t
  | .tup xs, .tup ys => eqvL xs ys
  | .lst xs, .lst ys => eqvL xs ys
  | _, _ => false
def eqvL : List D → List D → Bool
  | [], [] => true
  | x :: xs, y :: ys => eqv x y && eqvL xs ys
  | _, _ => false
end
mutual
/-- data: nothing of the heap, no class, no dict; at most so deep -/
def isData : Nat → D → Bool
  | _, .non => true
  | _, .bl _ => true
  | _, .int _ => true
  | _, .str _ => true
  | n + 1, .tup ds => areData n ds
  | n + 1, .lst ds => areData n ds
  | _, _ => false
def areData : Nat → List D → Bool
  | _, [] => true
  | n, d :: ds => isData n d && areData n ds
end
/-- a list of the small heap as a value -/
def deref : D → Hh → D
  | .loc n, h => match h[n]? with
    | some (some (.lst ds)) => .lst ds
    | _ => .loc n
  | d, _ => d
/-- the least text behind a text -/
def ltT : Tx → Tx → Bool := fun s t => decide (s < t)

/-! ### expressions -/
def eVar (i : Nat) : DE := fun env h => match env[i]? with
  | some (some d) => .ok d h
  | _ => .no
def eC (d : D) : DE := fun _ h => .ok d h
def e1 (f : D → Hh → R D) (a : DE) : DE := fun env h => (a env h).bind f
def e2 (f : D → D → Hh → R D) (a b : DE) : DE := fun env h => (a env h).bind fun x h => (b env h).bind fun y h => f x y h
def aNil : DA := fun _ h => .ok [] h
def aCons (a : DE) (r : DA) : DA := fun env h => (a env h).bind fun x h => (r env h).bind fun xs h => .ok (x :: xs) h
def eTup (a : DA) : DE := fun env h => (a env h).bind fun xs h => if xs.length ≤ big then .ok (.tup xs) h else .no
def eLst (a : DA) : DE := fun env h => (a env h).bind fun xs h => if xs.length ≤ big then .ok (.lst xs) h else .no
/-- a call of a def of n parameters that does F; dd: the defaults that fill up -/
def eCall (n : Nat) (F : Fn) (dd : List D) (a : DA) : DE := fun env h => (a env h).bind fun ds h => if ds.length + dd.length = n then F (ds ++ dd) h else .no
/-- a new object of the small heap -/
def eBox (a : DE) : DE := fun env h => (a env h).bind fun d h => match d with
  | .lst ds => .ok (.loc h.length) (h ++ [some (.lst ds)])
  | .dic ks ds => .ok (.loc h.length) (h ++ [some (.dic ks ds)])
  | _ => .no
/-- a new dict of the small heap; it stands empty while its values are made -/
def eDic (ks : List Ky) (a : DA) : DE := fun env h => (a env (h ++ [some (.dic [] [])])).bind fun ds h' => match h'[h.length]? with
  | some (some (.dic [] [])) => if ds.length = ks.length then .ok (.loc h.length) (h'.set h.length (some (.dic ks ds))) else .no
  | _ => .no
/-- a list that is given away: a value from now on -/
def eFrz (a : DE) : DE := fun env h => (a env h).bind fun d h => match d with
  | .loc n => (match h[n]? with
    | some (some (.lst ds)) => .ok (.lst ds) (h.set n none)
    | _ => .no)
  | _ => .no
def tE (a : DE) : DT := fun env h => (a env h).bind fun d h => match truth d h with
  | some b => .ok b h
  | none => .no
def tNot (t : DT) : DT := fun env h => (t env h).bind fun b h => .ok (!b) h
def tAnd (t u : DT) : DT := fun env h => (t env h).bind fun b h => if b then u env h else .ok false h
def tOr (t u : DT) : DT := fun env h => (t env h).bind fun b h => if b then .ok true h else u env h
def eIf (t : DT) (a b : DE) : DE := fun env h => (t env h).bind fun c h => if c then a env h else b env h
def eAnd (a b : DE) : DE := fun env h => (a env h).bind fun x h => match truth x h with
  | some true => b env h
  | some false => .ok x h
  | none => .no
def eOr (a b : DE) : DE := fun env h => (a env h).bind fun x h => match truth x h with
  | some true => .ok x h
  | some false => b env h
  | none => .no
def eNot (a : DE) : DE := fun env h => (a env h).bind fun x h => match truth x h with
  | some b => .ok (.bl (!b)) h
  | none => .no
/-- a < b < c -/
def eChain (f g : D → D → Hh → R D) (a b c : DE) : DE := fun env h => (a env h).bind fun x h => (b env h).bind fun y h => (f x y h).bind fun z h => match z with
  | .bl true => (c env h).bind fun w h => g y w h
  | .bl false => .ok (.bl false) h
  | _ => .no

/-! ### operators by values -/
def opAdd : D → D → Hh → R D
  | .int i, .int j, h => .ok (.int (i + j)) h
  | .str s, .str t, h => if s.length + t.length ≤ big then .ok (.str (s ++ t)) h else .no
  | .lst s, .lst t, h => if s.length + t.length ≤ big then .ok (.lst (s ++ t)) h else .no
  | .tup s, .tup t, h => if s ≠ [] ∧ s.length + t.length ≤ big then .ok (.tup (s ++ t)) h else .no
  | _, _, _ => .no
def opSub : D → D → Hh → R D
  | .int i, .int j, h => .ok (.int (i - j)) h
  | _, _, _ => .no
def word64 (i : Int) : Bool := decide (-(2 ^ 64) < i) && decide (i < 2 ^ 64)
def opMul : D → D → Hh → R D
  | .int i, .int j, h => if word64 i || word64 j then .ok (.int (i * j)) h else .no
  | .str s, .int j, h => if 0 ≤ j ∧ j ≤ 1000000 ∧ s.length * j.toNat ≤ big then .ok (.str (List.replicate j.toNat s).flatten) h else .no
  | _, _, _ => .no
def opDiv : D → D → Hh → R D
  | .int i, .int j, h => if 0 < j ∧ j < 2 ^ 8999 then .ok (.int (i / j)) h else .no
  | _, _, _ => .no
def opMod : D → D → Hh → R D
  | .int i, .int j, h => if 0 < j then .ok (.int (i % j)) h else .no
  | _, _, _ => .no
def opPow : D → D → Hh → R D
  | .int i, .int j, h => if 0 ≤ j ∧ j ≤ 1000000 ∧ i.natAbs < 2 ^ 64 then .ok (.int (i ^ j.toNat)) h else .no
  | _, _, _ => .no
def opNeg : D → Hh → R D
  | .int i, h => .ok (.int (-i)) h
  | _, _ => .no
def cEq : D → D → Hh → R D := fun x y h => if isData 60 (deref x h) && isData 60 (deref y h) then .ok (.bl (eqv (deref x h) (deref y h))) h else .no
def cNe : D → D → Hh → R D := fun x y h => if isData 60 (deref x h) && isData 60 (deref y h) then .ok (.bl (!eqv (deref x h) (deref y h))) h else .no
def cLt : D → D → Hh → R D
  | .int i, .int j, h => .ok (.bl (decide (i < j))) h
  | .str s, .str t, h => .ok (.bl (ltT s t)) h
  | _, _, _ => .no
def cLe : D → D → Hh → R D
  | .int i, .int j, h => .ok (.bl (decide (i ≤ j))) h
  | .str s, .str t, h => .ok (.bl (!ltT t s)) h
  | _, _, _ => .no
def cGt : D → D → Hh → R D := fun x y h => cLt y x h
def cGe : D → D → Hh → R D := fun x y h => cLe y x h
def cIsN : D → Hh → R D := fun x h => match x with
  | .non => .ok (.bl true) h
  | .bl _ => .ok (.bl false) h
  | .int _ => .ok (.bl false) h
  | .str _ => .ok (.bl false) h
  | .tup _ => .ok (.bl false) h
  | .lst _ => .ok (.bl false) h
  | .dic _ _ => .ok (.bl false) h
  | .loc _ => .ok (.bl false) h
  | _ => .no
def keyD : D → Option Ky
  | .int i => some (.i i)
  | .str t => some (.s t)
  | _ => none
def dget (k : Ky) : List Ky → List D → Option D
  | k' :: ks, d :: ds => if k' = k then some d else dget k ks ds
  | _, _ => none
def dput (k : Ky) (v : D) (ks : List Ky) (ds : List D) : List Ky × List D :=
  if ks.any (fun q => decide (q = k)) then (ks, List.zipWith (fun q d => if q = k then v else d) ks ds) else (ks ++ [k], ds ++ [v])
def flatD : D → Bool
  | .non => true
  | .bl _ => true
  | .int _ => true
  | .str _ => true
  | _ => false
def cIn : D → D → Hh → R D := fun x y h => match y with
  | .str t => (match x with
    | .str [q] => .ok (.bl (decide (q ∈ t))) h
    | _ => .no)
  | .dic ks ds => (match keyD x with
    | some k => .ok (.bl (dget k ks ds).isSome) h
    | none => .no)
  | .tab ks ds => (match x with
    | .str t => .ok (.bl (dget (.s t) ks ds).isSome) h
    | _ => .no)
  | .tup ds => if flatD x && ds.all flatD then .ok (.bl (ds.any fun d => eqv d x)) h else .no
  | .lst ds => if isData 50 x && areData 50 ds then .ok (.bl (ds.any fun d => eqv d x)) h else .no
  | .loc n => (match h[n]? with
    | some (some (.lst ds)) => if isData 50 x && areData 50 ds then .ok (.bl (ds.any fun d => eqv d x)) h else .no
    | some (some (.dic ks ds)) => (match keyD x with
      | some k => .ok (.bl (dget k ks ds).isSome) h
      | none => .no)
    | _ => .no)
  | _ => .no
def cNotIn : D → D → Hh → R D := fun x y h => (cIn x y h).bind fun d h => match d with
  | .bl b => .ok (.bl (!b)) h
  | _ => .no

/-! ### subscripts, slices, attributes -/
/-- the place of an index -/
def ixN (n : Nat) (i : Int) : Option Nat := if 0 ≤ i then (if i < n then some i.toNat else none) else if -(n : Int) ≤ i then some (i + n).toNat else none
def atIx {α : Type} (xs : List α) (i : Int) : Option α := (ixN xs.length i).bind fun j => xs[j]?
def opItem : D → D → Hh → R D := fun x y h => match x with
  | .lst ds => (match y with
    | .int i => (match atIx ds i with
      | some d => .ok d h
      | none => .no)
    | _ => .no)
  | .tup ds => (match y with
    | .int i => (match atIx ds i with
      | some d => .ok d h
      | none => .no)
    | _ => .no)
  | .str t => (match y with
    | .int i => (match atIx t i with
      | some c => .ok (.str [c]) h
      | none => .no)
    | _ => .no)
  | .dic ks ds => (match keyD y with
    | some k => (match dget k ks ds with
      | some d => .ok d h
      | none => .no)
    | none => .no)
  | .tab ks ds => (match y with
    | .str t => (match dget (.s t) ks ds with
      | some d => .ok d h
      | none => .no)
    | _ => .no)
  | .loc n => (match h[n]? with
    | some (some (.lst ds)) => (match y with
      | .int i => (match atIx ds i with
        | some d => .ok d h
        | none => .no)
      | _ => .no)
    | some (some (.dic ks ds)) => (match keyD y with
      | some k => (match dget k ks ds with
        | some d => .ok d h
        | none => .no)
      | none => .no)
    | _ => .no)
  | _ => .no
/-- where a slice's end stands in a row of n -/
def clampI (n d : Nat) : Option Int → Nat
  | none => d
  | some v => if v < 0 then (v + (n : Int)).toNat else min v.toNat n
def slc {α : Type} (xs : List α) (lo hi : Option Int) : List α := (xs.drop (clampI xs.length 0 lo)).take (clampI xs.length xs.length hi - clampI xs.length 0 lo)
def opSlice (lo hi : Option Int) : D → Hh → R D := fun x h => match x with
  | .lst ds => .ok (.lst (slc ds lo hi)) h
  | .tup ds => .ok (.tup (slc ds lo hi)) h
  | .str t => .ok (.str (slc t lo hi)) h
  | .scr ns => .ok (.lst ((slc ns lo hi).map D.int)) h
  | .loc n => (match h[n]? with
    | some (some (.lst ds)) => .ok (.lst (slc ds lo hi)) h
    | _ => .no)
  | _ => .no
/-- an optional bound -/
abbrev DO := Env → Hh → R (Option Int)
def oNone : DO := fun _ h => .ok none h
def oSome (a : DE) : DO := fun env h => (a env h).bind fun d h => match d with
  | .int i => .ok (some i) h
  | _ => .no
def eSlice (a : DE) (lo hi : DO) : DE := fun env h => (a env h).bind fun x h => (lo env h).bind fun i h => (hi env h).bind fun j h => opSlice i j x h
def fget (f : String) : List String → List D → Option D
  | g :: fs, d :: ds => if g = f then some d else fget f fs ds
  | _, _ => none
def fput (f : String) (v : D) : List String → List D → List String × List D
  | g :: fs, d :: ds => if g = f then (g :: fs, v :: ds) else (g :: (fput f v fs ds).1, d :: (fput f v fs ds).2)
  | _, _ => ([f], [v])
/-- a field of an instance of the class C -/
def eFld (C f : String) (a : DE) : DE := fun env h => (a env h).bind fun x h => match x with
  | .loc n => (match h[n]? with
    | some (some (.ins C' fs ds)) => if C' = C then (match fget f fs ds with
      | some d => .ok d h
      | none => .no) else .no
    | _ => .no)
  | _ => .no
/-- an instance of the class C that has no field m -/
def onIns (C m : String) (x : D) (h : Hh) (g : R D) : R D := match x with
  | .loc n => (match h[n]? with
    | some (some (.ins C' fs ds)) => if C' = C ∧ fget m fs ds = none then g else .no
    | _ => .no)
  | _ => .no
/-- a method of the class C that does F -/
def eMeth (C m : String) (n : Nat) (F : Fn) (dd : List D) (a : DE) (r : DA) : DE := fun env h => (a env h).bind fun x h => onIns C m x h ((r env h).bind fun xs h => if xs.length + dd.length + 1 = n then F (x :: (xs ++ dd)) h else .no)
/-- a new instance of the class C, whose __init__ does F -/
def eMake (C : String) (n : Nat) (F : Fn) (dd : List D) (r : DA) : DE := fun env h => (r env h).bind fun xs h => if xs.length + dd.length + 1 = n then (F (.loc h.length :: (xs ++ dd)) (h ++ [some (.ins C [] [])])).bind fun d h' => (match d with
  | .non => .ok (.loc h.length) h'
  | _ => .no) else .no

/-! ### targets, statements -/
def gName (i : Nat) : DG := fun d env h => .ok (env.set i (some d)) h
abbrev DGs := List D → Env → Hh → R Env
def gNil : DGs := fun ds env h => match ds with
  | [] => .ok env h
  | _ => .no
def gCons (g : DG) (gs : DGs) : DGs := fun ds env h => match ds with
  | d :: r => (g d env h).bind fun env h => gs r env h
  | [] => .no
def gTup (n : Nat) (gs : DGs) : DG := fun d env h => match d with
  | .tup ds => if ds.length = n then gs ds env h else .no
  | _ => .no
/-- n names, then a star -/
def gStar (n : Nat) (gs : DGs) : DG := fun d env h => match d with
  | .tup ds => if n ≤ ds.length then gs (ds.take n ++ [.lst (ds.drop n)]) env h else .no
  | _ => .no
/-- a statement behind an expression -/
def R.thenS {α : Type} (r : R α) (env : Env) (f : α → Hh → RS) : RS := match r with
  | .ok a h => f a h
  | .exc x h => .exc x env h
  | .no => .no
@[simp] theorem R.thenS_ok {α : Type} (a : α) (h : Hh) (env : Env) (f : α → Hh → RS) : (R.ok a h).thenS env f = f a h := rfl
@[simp] theorem R.thenS_exc {α : Type} (x : Xn) (h : Hh) (env : Env) (f : α → Hh → RS) : (R.exc x h).thenS env f = .exc x env h := rfl
@[simp] theorem R.thenS_no {α : Type} (env : Env) (f : α → Hh → RS) : (R.no : R α).thenS env f = .no := rfl
/-- what follows a statement -/
def RS.next (r : RS) (f : Env → Hh → RS) : RS := match r with
  | .nx env h => f env h
  | r => r
@[simp] theorem RS.next_nx (env : Env) (h : Hh) (f : Env → Hh → RS) : (RS.nx env h).next f = f env h := rfl
@[simp] theorem RS.next_rt (d : D) (h : Hh) (f : Env → Hh → RS) : (RS.rt d h).next f = .rt d h := rfl
@[simp] theorem RS.next_bk (env : Env) (h : Hh) (f : Env → Hh → RS) : (RS.bk env h).next f = .bk env h := rfl
@[simp] theorem RS.next_ct (env : Env) (h : Hh) (f : Env → Hh → RS) : (RS.ct env h).next f = .ct env h := rfl
@[simp] theorem RS.next_exc (x : Xn) (env : Env) (h : Hh) (f : Env → Hh → RS) : (RS.exc x env h).next f = .exc x env h := rfl
@[simp] theorem RS.next_no (f : Env → Hh → RS) : RS.no.next f = .no := rfl
/-- a store at a target -/
def onG (r : R Env) : RS := match r with
  | .ok env h => .nx env h
  | _ => .no
@[simp] theorem onG_ok (env : Env) (h : Hh) : onG (.ok env h) = .nx env h := rfl
def sSet (a : DE) (g : DG) : DS := fun env h => (a env h).thenS env fun d h => onG (g d env h)
def sNil : DS := fun env h => .nx env h
def sSeq (a b : DS) : DS := fun env h => (a env h).next b
def sExpr (a : DE) : DS := fun env h => (a env h).thenS env fun _ h => .nx env h
def sRet (a : DE) : DS := fun env h => (a env h).thenS env fun d h => .rt d h
def sRetN : DS := fun _ h => .rt .non h
def sIf (t : DT) (a b : DS) : DS := fun env h => (t env h).thenS env fun c h => if c then a env h else b env h
def sNo : DS := fun _ _ => .no
def sBrk : DS := fun env h => .bk env h
def sCnt : DS := fun env h => .ct env h
/-- an instance of the class C -/
def insOf (C : String) : D → Hh → Option (Nat × List String × List D)
  | .loc n, h => (match h[n]? with
    | some (some (.ins C' fs ds)) => if C' = C then some (n, fs, ds) else none
    | _ => none)
  | _, _ => none
/-- a field stored -/
def setF (C f : String) (x v : D) (h : Hh) : R D := match insOf C x h with
  | some (n, fs, ds) => if fs.length < 900 then .ok .non (h.set n (some (.ins C (fput f v fs ds).1 (fput f v fs ds).2))) else .no
  | none => .no
/-- o.f = e, an instance of the class C -/
def sFld (C f : String) (o a : DE) : DS := fun env h => ((a env h).bind fun v h => (o env h).bind fun x h => setF C f x v h).thenS env fun _ h => .nx env h
/-- o.f += e, ints -/
def sFldAdd (C f : String) (o a : DE) : DS := fun env h => ((o env h).bind fun x h => match insOf C x h with
    | some (_, fs, ds) => (match fget f fs ds with
      | some (.int i) => (a env h).bind fun y h => (match y with
        | .int j => setF C f x (.int (i + j)) h
        | _ => .no)
      | _ => .no)
    | none => .no).thenS env fun _ h => .nx env h
/-- x op= e, a local -/
def sAug (i : Nat) (f : D → D → Hh → R D) (a : DE) : DS := fun env h => (e2 f (eVar i) a env h).thenS env fun d h => .nx (env.set i (some d)) h
/-- an item stored -/
def setK (x y v : D) (h : Hh) : R D := match x with
  | .loc n => (match h[n]? with
    | some (some (.dic ks ds)) => (match keyD y with
      | some k => if ks.length < big then .ok .non (h.set n (some (.dic (dput k v ks ds).1 (dput k v ks ds).2))) else .no
      | none => .no)
    | _ => .no)
  | _ => .no
/-- d[k] = e -/
def sPut (o k a : DE) : DS := fun env h => ((a env h).bind fun v h => (o env h).bind fun x h => (k env h).bind fun y h => setK x y v h).thenS env fun _ h => .nx env h
/-- a built-in's call -/
def eB (F : Fn) (a : DA) : DE := fun env h => (a env h).bind F
/-- of which built-in type, for a method -/
def tyD (T : String) : D → Hh → Bool
  | .str _, _ => T == "str"
  | .lst _, _ => T == "list"
  | .dic _ _, _ => T == "dict"
  | .loc n, h => match h[n]? with
    | some (some (.lst _)) => T == "list"
    | some (some (.dic _ _)) => T == "dict"
    | _ => false
  | _, _ => false
/-- a built-in type's method -/
def eBM (T : String) (F : D → List D → Hh → R D) (a : DE) (r : DA) : DE := fun env h => (a env h).bind fun x h => if tyD T x h then (r env h).bind fun xs h => F x xs h else .no
def eBM0 (T : String) (F : D → List D → Hh → R D) (a : DE) : DE := fun env h => (a env h).bind fun x h => if tyD T x h then F x [] h else .no
/-- list methods -/
def fAppend : D → D → Hh → R D := fun x v h => match x with
  | .loc n => (match h[n]? with
    | some (some (.lst ds)) => if ds.length < big then .ok .non (h.set n (some (.lst (ds ++ [v])))) else .no
    | _ => .no)
  | _ => .no
def fPop : D → Hh → R D := fun x h => match x with
  | .loc n => (match h[n]? with
    | some (some (.lst ds)) => (match ds[ds.length - 1]? with
        | some d => .ok d (h.set n (some (.lst ds.dropLast)))
        | none => .no)
    | _ => .no)
  | _ => .no
def fExtend : D → D → Hh → R D := fun x v h => match x with
  | .loc n => (match h[n]? with
    | some (some (.lst ds)) => (match v with
      | .lst es => if ds.length + es.length ≤ big then .ok .non (h.set n (some (.lst (ds ++ es)))) else .no
      | _ => .no)
    | _ => .no)
  | _ => .no

/-! ### loops, comprehensions -/
/-- the turns' values -/
abbrev DI := Env → Hh → R (List D)
def itL : D → Hh → Option (List D)
  | .lst ds, _ => some ds
  | .scr ns, _ => some (ns.map D.int)
  | _, _ => none
def itT : D → Hh → Option (List D)
  | .tup ds, _ => some ds
  | _, _ => none
def itS : D → Hh → Option (List D)
  | .str t, _ => some (t.map fun c => D.str [c])
  | _, _ => none
def iE (it : D → Hh → Option (List D)) (a : DE) : DI := fun env h => (a env h).bind fun d h => match it d h with
  | some xs => .ok xs h
  | none => .no
def iRange (a : DE) : DI := fun env h => (a env h).bind fun d h => match d with
  | .int n => if n < 2 ^ 62 ∧ -(2 ^ 62) ≤ n then .ok ((List.range n.toNat).map fun k => D.int (k : Nat)) h else .no
  | _ => .no
def forL (body : D → Env → Hh → RS) : List D → Env → Hh → RS
  | [], env, h => .nx env h
  | d :: ds, env, h => match body d env h with
    | .nx env h => forL body ds env h
    | .ct env h => forL body ds env h
    | .bk env h => .nx env h
    | r => r
def turnS (g : DG) (b : DS) : D → Env → Hh → RS := fun d env h => (onG (g d env h)).next b
def sFor (it : DI) (g : DG) (b : DS) : DS := fun env h => (it env h).thenS env fun xs h => forL (turnS g b) xs env h
def whileN (t : DT) (b : DS) : Nat → Env → Hh → RS
  | 0, _, _ => .no
  | n + 1, env, h => (t env h).thenS env fun c h => if c then (match b env h with
      | .nx env h => whileN t b n env h
      | .ct env h => whileN t b n env h
      | .bk env h => .nx env h
      | r => r) else .nx env h
def sWhile (n : Nat) (t : DT) (b : DS) : DS := whileN t b n
def wipe (env : Env) : List Nat → Env
  | [] => env
  | v :: vs => (wipe env vs).set v none
mutual
/-- nothing of the small heap from n on -/
def below (n : Nat) : D → Bool
  | .loc m => decide (m < n)
  | .tup ds => belows n ds
  | .lst ds => belows n ds
  | .dic _ ds => belows n ds
  | .tab _ ds => belows n ds
  | _ => true
def belows (n : Nat) : List D → Bool
  | [] => true
  | d :: ds => below n d && belows n ds
end
def belowO (n : Nat) : O → Bool
  | .lst ds => belows n ds
  | .dic _ ds => belows n ds
  | .ins _ _ ds => belows n ds
/-- nothing of the heap from h0's length on is needed: it is forgotten -/
def Trims (h0 : Hh) (d : D) (h : Hh) : Prop := h0.length ≤ h.length ∧ below h0.length d = true ∧ ∀ i, i < h0.length → h[i]? = h0[i]? ∨ ∀ o, h[i]? = some (some o) → belowO h0.length o = true
open Classical in
noncomputable def trim (h0 : Hh) : R D → R D
  | .ok d h => if Trims h0 d h then .ok d (h.take h0.length) else .ok d h
  | r => r

/-- the new list stands at n -/
def compL (n : Nat) (turn : D → Hh → R (Option D)) : List D → Hh → R Unit
  | [], h => .ok () h
  | d :: ds, h => match turn d h with
    | .ok o h => (match o with
      | none => compL n turn ds h
      | some y => (match h[n]? with
        | some (some (.lst acc)) => if acc.length < big then compL n turn ds (h.set n (some (.lst (acc ++ [y])))) else .no
        | _ => .no))
    | _ => .no
def turnC (g : DG) (t : DT) (a : DE) (env0 : Env) : D → Hh → R (Option D) := fun d h => (g d env0 h).bind fun env h => (t env h).bind fun b h => if b then (a env h).bind fun y h => .ok (some y) h else .ok none h
def tYes : DT := fun _ h => .ok true h
/-- [a for g in it if t], the names of g at vs -/
noncomputable def eComp (it : DI) (g : DG) (t : DT) (a : DE) (vs : List Nat) : DE := fun env h => (it env h).bind fun xs h => match compL h.length (turnC g t a (wipe env vs)) xs (h ++ [some (.lst [])]) with
  | .ok _ h2 => (match h2[h.length]? with
    | some (some (.lst ys)) => trim h (.ok (.lst ys) (h2.set h.length none))
    | _ => .no)
  | _ => .no

/-! ### a def -/
def start (n : Nat) (ds : List D) : Env := ds.map some ++ List.replicate (n - ds.length) none
/-- what a def of n names with this body does -/
def run (n : Nat) (b : DS) : Fn := fun ds h => match b (start n ds) h with
  | .nx _ h => .ok .non h
  | .rt d h => .ok d h
  | .exc x _ h => .exc x h
  | _ => .no
/-! ### built-ins by values -/
def on1 (f : D → Hh → R D) : Fn := fun ds h => match ds with
  | [d] => f d h
  | _ => .no
def on2 (f : D → D → Hh → R D) : Fn := fun ds h => match ds with
  | [d, e] => f d e h
  | _ => .no
def fLen : D → Hh → R D
  | .str t, h => .ok (.int t.length) h
  | .tup xs, h => .ok (.int xs.length) h
  | .lst xs, h => .ok (.int xs.length) h
  | .scr xs, h => .ok (.int xs.length) h
  | .dic ks _, h => .ok (.int ks.length) h
  | .loc n, h => (match h[n]? with
    | some (some (.lst xs)) => .ok (.int xs.length) h
    | some (some (.dic ks _)) => .ok (.int ks.length) h
    | _ => .no)
  | _, _ => .no
def bLen : Fn := on1 fLen
/-- the built-in type's name -/
def tyOf : D → Hh → Option String
  | .non, _ => some "NoneType"
  | .bl _, _ => some "bool"
  | .int _, _ => some "int"
  | .str _, _ => some "str"
  | .tup _, _ => some "tuple"
  | .lst _, _ => some "list"
  | .dic _ _, _ => some "dict"
  | .loc n, h => match h[n]? with
    | some (some (.lst _)) => some "list"
    | some (some (.dic _ _)) => some "dict"
    | _ => none
  | _, _ => none
def isT (t T : String) : Bool := t == T || (t == "bool" && T == "int")
/-- isinstance with a built-in type -/
def fIsi : D → D → Hh → R D := fun x y h => match y with
  | .ty T => if T ∈ ["str", "int", "bool", "tuple", "list", "dict"] then (match tyOf x h with
    | some t => .ok (.bl (isT t T)) h
    | none => .no) else .no
  | _ => .no
def bIsi : Fn := on2 fIsi
def allB : List D → Option Bool
  | [] => some true
  | .bl b :: r => (allB r).map fun c => b && c
  | _ => none
def anyB : List D → Option Bool
  | [] => some false
  | .bl b :: r => (anyB r).map fun c => b || c
  | _ => none
def fAll : D → Hh → R D
  | .lst xs, h => (match allB xs with
    | some b => .ok (.bl b) h
    | none => .no)
  | _, _ => .no
def bAll : Fn := on1 fAll
def fAny : D → Hh → R D
  | .lst xs, h => (match anyB xs with
    | some b => .ok (.bl b) h
    | none => .no)
  | _, _ => .no
def bAny : Fn := on1 fAny
/-- the figures of a number -/
def natT (n : Nat) : Tx := (Nat.toDigits 10 n).map Char.toNat
def intT (i : Int) : Tx := if i < 0 then 45 :: natT i.natAbs else natT i.natAbs
def fStr : D → Hh → R D
  | .int i, h => if i.natAbs < 2 ^ 1900 then .ok (.str (intT i)) h else .no
  | .str t, h => .ok (.str t) h
  | _, _ => .no
def bStr : Fn := on1 fStr
def fInt : D → Hh → R D
  | .int i, h => .ok (.int i) h
  | .bl b, h => .ok (.int (if b then 1 else 0)) h
  | .str t, h => if t ≠ [] ∧ t.length ≤ 640 ∧ t.all (fun c => decide (48 ≤ c ∧ c ≤ 57)) then .ok (.int (t.foldl (fun (n : Int) (c : Nat) => n * 10 + ((c : Int) - 48)) 0)) h else .no
  | _, _ => .no
def bInt : Fn := on1 fInt
def fAbs : D → Hh → R D
  | .int i, h => .ok (.int (if i < 0 then -i else i)) h
  | _, _ => .no
def bAbs : Fn := on1 fAbs
def fMin : D → D → Hh → R D
  | .int i, .int j, h => .ok (.int (if j < i then j else i)) h
  | _, _, _ => .no
def bMin : Fn := on2 fMin
def fMax : D → D → Hh → R D
  | .int i, .int j, h => .ok (.int (if j > i then j else i)) h
  | _, _, _ => .no
def bMax : Fn := on2 fMax
def fTuple : D → Hh → R D
  | .lst xs, h => .ok (.tup xs) h
  | .tup xs, h => .ok (.tup xs) h
  | .loc n, h => (match h[n]? with
    | some (some (.lst xs)) => .ok (.tup xs) h
    | _ => .no)
  | _, _ => .no
def bTuple : Fn := on1 fTuple
def fList : D → Hh → R D
  | .lst xs, h => .ok (.lst xs) h
  | .tup xs, h => .ok (.lst xs) h
  | .loc n, h => (match h[n]? with
    | some (some (.lst xs)) => .ok (.lst xs) h
    | _ => .no)
  | _, _ => .no
def bList : Fn := on1 fList
/-! ### methods by values -/
def m0 (f : D → Hh → R D) : D → List D → Hh → R D := fun x vs h => match vs with
  | [] => f x h
  | _ => .no
def m1 (f : D → D → Hh → R D) : D → List D → Hh → R D := fun x vs h => match vs with
  | [v] => f x v h
  | _ => .no
def m2 (f : D → D → D → Hh → R D) : D → List D → Hh → R D := fun x vs h => match vs with
  | [v, u] => f x v u h
  | _ => .no
def txOf : D → Option Tx
  | .str t => some t
  | _ => none
def txsOf : List D → Option (List Tx)
  | [] => some []
  | .str t :: r => (txsOf r).map fun ts => t :: ts
  | _ => none
def joinT (sep : Tx) : List Tx → Tx
  | [] => []
  | [t] => t
  | t :: r => t ++ sep ++ joinT sep r
def fJoin : D → D → Hh → R D := fun x v h => match x with
  | .str s => (match v with
    | .lst ds => (match txsOf ds with
      | some ts => if (ts.map List.length).sum + ts.length * s.length ≤ big then .ok (.str (joinT s ts)) h else .no
      | none => .no)
    | _ => .no)
  | _ => .no
def mJoin := m1 fJoin
/-- the first place of a sign from a place on -/
def findC (c : Nat) : Tx → Nat → Nat → Int
  | [], _, _ => -1
  | d :: r, k, n => if n ≤ k ∧ d = c then k else findC c r (k + 1) n
def fFind : D → D → D → Hh → R D := fun x v u h => match x with
  | .str t => (match v with
    | .str [c] => (match u with
      | .int i => if 0 ≤ i ∧ i ≤ t.length then .ok (.int (findC c t 0 i.toNat)) h else .no
      | _ => .no)
    | _ => .no)
  | _ => .no
def mFind := m2 fFind
def mAppend := m1 fAppend
def mPop := m0 fPop
def mExtend := m1 fExtend
end Dn

/-! text DnB -/
set_option maxHeartbeats 1000000
set_option Elab.async false
set_option linter.all false
set_option maxRecDepth 100000
set_option autoImplicit false
/-! Dn, part B: how the deep values and the small heap stand in the layer's abstract heap. -/
namespace Dn
open PySem L2
def toS (t : Tx) : Str := ⟨t.toArray⟩
theorem toS_S (s : String) : toS (S s) = Str.ofString s := by
  rw [Str.ofString_eq_toList] <;> rfl
theorem toS_inj {a b : Tx} : toS a = toS b ↔ a = b := by
  constructor
  · intro h
    have h2 : a.toArray = b.toArray := congrArg Str.cps h
    simpa using h2
  · intro h
    rw [h]
theorem ofS_inj {a b : String} : Str.ofString a = Str.ofString b ↔ a = b := by
  rw [← toS_S, ← toS_S, toS_inj, S_inj]
def kyK : Ky → Key
  | .i n => .inl n
  | .s t => .inr (toS t)
theorem kyK_inj {a b : Ky} : kyK a = kyK b ↔ a = b := by
  cases a <;> cases b <;> simp [kyK, toS_inj]
/-- where the small heap stands -/
structure Cz where
  ms : List Addr
  h : Hh
  H : Hp
/-- not an object that may be written -/
def Froz (c : Cz) (a : Addr) : Prop := ∀ (n : Nat) (o : O), c.h[n]? = some (some o) → c.ms[n]? ≠ some a
/-- a dict of the module, by its text keys -/
def vget {α : Type} (k : Ky) : List Ky → List α → Option α
  | k' :: ks, d :: ds => if k' = k then some d else vget k ks ds
  | _, _ => none
def KTab (K : PySem.W.Frag) (w : World) (a : Addr) (ks : List Ky) (vs : List V) : Prop :=
  (∃ es n, KDict K w a es n) ∧ ∀ z : Tx, (vget (.s z) ks vs = none → PySem.W.nsIn K a (toS z) = some none) ∧ ∀ v, vget (.s z) ks vs = some v → ∃ u, PySem.W.nsIn K a (toS z) = some (some u) ∧ RelV v u
section
variable (K : PySem.W.Frag) (w : World) (mg : Str → Option Value)
mutual
def Rep (c : Cz) : D → V → Prop
  | .non, v => v = .non
  | .bl b, v => v = .bl b
  | .int i, v => v = .int i
  | .str t, v => v = .str (toS t) ∧ t.length ≤ big ∧ ∀ q ∈ t, q < 1114112
  | .ty n, v => v = .ty n
  | .glb x, v => ∃ a, mg (Str.ofString x) = some (.ref a) ∧ v = .ref a
  | .scr ns, v => ∃ a, v = .ref a ∧ ns.length ≤ big ∧ ((Rd c.H a (.lst (ns.map V.int)) ∧ Froz c a) ∨ ∀ H : Hp, SqL K H a (ns.map V.int))
  | .loc n, v => ∃ a, c.ms[n]? = some a ∧ v = .ref a
  | .tup ds, v => ∃ a vs, v = .ref a ∧ SqT K c.H a vs ∧ RepL c ds vs ∧ ds.length ≤ big
  | .lst ds, v => ∃ a vs, v = .ref a ∧ c.H a = some (.lst vs) ∧ Froz c a ∧ RepL c ds vs ∧ ds.length ≤ big
  | .dic ks ds, v => ∃ a vs, v = .ref a ∧ ks.length = vs.length ∧ RepL c ds vs ∧ c.H a = some (.dK ((ks.map kyK).zip vs)) ∧ Froz c a
  | .tab ks ds, v => ∃ a vs, v = .ref a ∧ ks.length = vs.length ∧ RepL c ds vs ∧ KTab K w a ks vs
def RepL (c : Cz) : List D → List V → Prop
  | [], vs => vs = []
  | d :: ds, vs => ∃ v r, vs = v :: r ∧ Rep c d v ∧ RepL c ds r
end
def RepO (c : Cz) : O → Addr → Prop
  | .lst ds, a => ∃ vs, c.H a = some (.lst vs) ∧ RepL K w mg c ds vs ∧ ds.length ≤ big
  | .dic ks ds, a => ∃ vs, c.H a = some (.dK ((ks.map kyK).zip vs)) ∧ ks.length = vs.length ∧ RepL K w mg c ds vs
  | .ins C fs ds, a => ∃ Ca dx vs, mg (Str.ofString C) = some (.ref Ca) ∧ c.H a = some (.ins Ca dx ((fs.map Str.ofString).zip vs)) ∧ fs.length = vs.length ∧ RepL K w mg c ds vs
structure SimH (c : Cz) : Prop where
  len : c.ms.length = c.h.length
  nd : ∀ (i j : Nat) (a : Addr), c.ms[i]? = some a → c.ms[j]? = some a → i = j
  all : ∀ (n : Nat) (a : Addr), c.ms[n]? = some a → c.H a ≠ none
  live : ∀ (n : Nat) (o : O), c.h[n]? = some (some o) → ∃ a, c.ms[n]? = some a ∧ RepO K w mg c o a
/-- the slots -/
def SimE (c : Cz) (env : Env) (σ : St) : Prop := env.length = σ.length ∧ ∀ (i : Nat) (d : D), env[i]? = some (some d) → ∃ v, σ[i]? = some (some v) ∧ Rep K w mg c d v
/-- an exception -/
def RepX (c : Cz) (x : Xn) (cls : Value) (dd : Option Addr) : Prop :=
  ∃ C, mg (Str.ofString x.cls) = some (.ref C) ∧ cls = .ref C ∧ ((x.fs = [] ∧ x.ds = [] ∧ dd = none) ∨ ∃ d vs, dd = some d ∧ c.H d = some (.xd ((x.fs.map Str.ofString).zip vs)) ∧ x.fs.length = vs.length ∧ RepL K w mg c x.ds vs)
end
/-- later: what stood and may not be written stands, the new places were free -/
structure Ext (c c' : Cz) : Prop where
  pre : ∃ l, c'.ms = c.ms ++ l
  le : c.h.length ≤ c'.h.length
  dead : ∀ n : Nat, c.h[n]? = some none → c'.h[n]? = some none
  new : ∀ (n : Nat) (a : Addr), c.ms.length ≤ n → c'.ms[n]? = some a → c.H a = none
  keep : ∀ b o, c.H b = some o → Froz c b → c'.H b = some o
  there : ∀ b, c'.H b = none → c.H b = none
section
variable {K : PySem.W.Frag} {w : World} {mg : Str → Option Value} {c c' c2 : Cz}
theorem RepL.nil : RepL K w mg c [] [] := by unfold RepL; rfl
theorem RepL.cons {d : D} {ds : List D} {v : V} {vs : List V} (h : Rep K w mg c d v) (r : RepL K w mg c ds vs) : RepL K w mg c (d :: ds) (v :: vs) := by
  unfold RepL
  exact ⟨v, vs, rfl, h, r⟩
theorem RepL.of_nil {vs : List V} (h : RepL K w mg c [] vs) : vs = [] := by
  unfold RepL at h
  exact h
theorem RepL.of_cons {d : D} {ds : List D} {vs : List V} (h : RepL K w mg c (d :: ds) vs) : ∃ v r, vs = v :: r ∧ Rep K w mg c d v ∧ RepL K w mg c ds r := by
  unfold RepL at h
  exact h
theorem RepL.length : ∀ {ds : List D} {vs : List V}, RepL K w mg c ds vs → ds.length = vs.length
  | [], vs, h => by rw [RepL.of_nil h] <;> rfl
  | d :: ds, vs, h => by
    obtain ⟨v, r, rfl, _, h2⟩ := RepL.of_cons h
    simp [RepL.length h2]
theorem RepL.get : ∀ {ds : List D} {vs : List V} {i : Nat} {d : D}, RepL K w mg c ds vs → ds[i]? = some d → ∃ v, vs[i]? = some v ∧ Rep K w mg c d v
  | [], vs, i, d, h, e => by simp at e
  | x :: ds, vs, 0, d, h, e => by
    obtain ⟨v, r, rfl, h1, h2⟩ := RepL.of_cons h
    simp at e
    subst e
    exact ⟨v, rfl, h1⟩
  | x :: ds, vs, i + 1, d, h, e => by
    obtain ⟨v, r, rfl, h1, h2⟩ := RepL.of_cons h
    simpa using RepL.get h2 (i := i) (by simpa using e)
theorem RepL.append : ∀ {ds es : List D} {vs us : List V}, RepL K w mg c ds vs → RepL K w mg c es us → RepL K w mg c (ds ++ es) (vs ++ us)
  | [], es, vs, us, h, h2 => by
    rw [RepL.of_nil h]
    exact h2
  | d :: ds, es, vs, us, h, h2 => by
    obtain ⟨v, r, rfl, h3, h4⟩ := RepL.of_cons h
    exact .cons h3 (RepL.append h4 h2)
theorem RepL.take : ∀ (n : Nat) {ds : List D} {vs : List V}, RepL K w mg c ds vs → RepL K w mg c (ds.take n) (vs.take n)
  | 0, _, _, _ => by simpa using RepL.nil
  | n + 1, [], vs, h => by
    rw [RepL.of_nil h]
    simpa using RepL.nil
  | n + 1, d :: ds, vs, h => by
    obtain ⟨v, r, rfl, h3, h4⟩ := RepL.of_cons h
    simpa using RepL.cons h3 (RepL.take n h4)
theorem RepL.drop : ∀ (n : Nat) {ds : List D} {vs : List V}, RepL K w mg c ds vs → RepL K w mg c (ds.drop n) (vs.drop n)
  | 0, _, _, h => by simpa using h
  | n + 1, [], vs, h => by
    rw [RepL.of_nil h]
    simpa using RepL.nil
  | n + 1, d :: ds, vs, h => by
    obtain ⟨v, r, rfl, h3, h4⟩ := RepL.of_cons h
    simpa using RepL.drop n h4
theorem RepL.ints (ns : List Int) : RepL K w mg c (ns.map D.int) (ns.map V.int) := by
  induction ns with
  | nil => exact .nil
  | cons n r ih => exact .cons (by simp [Rep]) ih
theorem RepL.map {α : Type} {f : α → D} {g : α → V} (h : ∀ a, Rep K w mg c (f a) (g a)) (l : List α) : RepL K w mg c (l.map f) (l.map g) := by
  induction l with
  | nil => exact .nil
  | cons n r ih => exact .cons (h n) ih

/-! ### later -/
theorem Ext.refl : Ext c c := by
  refine ⟨⟨[], by simp⟩, Nat.le_refl _, fun _ h => h, fun n a hn e => ?_, fun _ _ h _ => h, fun _ h => h⟩
  rw [List.getElem?_eq_none hn] at e
  cases e
theorem Ext.ms (E : Ext c c') {n : Nat} {a : Addr} (h : c.ms[n]? = some a) : c'.ms[n]? = some a := by
  obtain ⟨l, e⟩ := E.pre
  rw [e, List.getElem?_append_left (by
    by_cases q : n < c.ms.length
    · exact q
    · rw [List.getElem?_eq_none (by omega)] at h
      cases h)]
  exact h
theorem Ext.ms_old (E : Ext c c') {n : Nat} (hn : n < c.ms.length) : c'.ms[n]? = c.ms[n]? := by
  obtain ⟨l, e⟩ := E.pre
  rw [e, List.getElem?_append_left hn]
/-- what may not be written may not be written later -/
theorem Ext.froz (S : SimH K w mg c) (E : Ext c c') {b : Addr} {o : HO} (e : c.H b = some o) (f : Froz c b) : Froz c' b := fun n ob hn hb => by
  by_cases q : n < c.ms.length
  · rw [E.ms_old q] at hb
    have q2 : n < c.h.length := by rw [← S.len]; exact q
    cases hc : c.h[n]? with
    | none =>
      rw [List.getElem?_eq_none_iff] at hc
      omega
    | some x =>
      cases x with
      | none =>
        rw [E.dead n hc] at hn
        cases hn
      | some o' => exact f n o' hc hb
  · rw [E.new n b (by omega) hb] at e
    cases e
theorem Ext.trans (S : SimH K w mg c) (E : Ext c c') (F : Ext c' c2) : Ext c c2 := by
  refine ⟨?_, Nat.le_trans E.le F.le, fun n h => F.dead n (E.dead n h), fun n a hn e => ?_, fun b o h f => F.keep b o (E.keep b o h f) (E.froz S h f), fun b h => E.there b (F.there b h)⟩
  · obtain ⟨l, e⟩ := E.pre
    obtain ⟨l2, e2⟩ := F.pre
    exact ⟨l ++ l2, by rw [e2, e, List.append_assoc]⟩
  · by_cases q : n < c'.ms.length
    · rw [F.ms_old q] at e
      exact E.new n a hn e
    · exact E.there a (F.new n a (by omega) e)
/-- what is no list, dict, instance may not be written -/
theorem SimH.froz (S : SimH K w mg c) {a : Addr} {u : HO} (e : c.H a = some u) (h1 : ∀ xs, u ≠ .lst xs) (h2 : ∀ kvs, u ≠ .dK kvs) (h3 : ∀ C dx fs, u ≠ .ins C dx fs) : Froz c a := fun n o hn hb => by
  obtain ⟨a2, ea, ro⟩ := S.live n o hn
  rw [ea] at hb
  cases hb
  cases o with
  | lst ds =>
    obtain ⟨vs, q, _⟩ := ro
    rw [e] at q
    exact h1 _ (Option.some.inj q)
  | dic ks ds =>
    obtain ⟨vs, q, _⟩ := ro
    rw [e] at q
    exact h2 _ (Option.some.inj q)
  | ins C fs ds =>
    obtain ⟨Ca, dx, vs, _, q, _⟩ := ro
    rw [e] at q
    exact h3 _ _ _ (Option.some.inj q)
theorem SqT_ext (S : SimH K w mg c) (E : Ext c c') {a : Addr} {vs : List V} (h : SqT K c.H a vs) : SqT K c'.H a vs := by
  rcases h with (h | ⟨o, h⟩) | h
  · exact .inl (.inl (E.keep _ _ h (S.froz h (fun _ => nofun) (fun _ => nofun) (fun _ _ _ => nofun))))
  · exact .inl (.inr ⟨o, E.keep _ _ h (S.froz h (fun _ => nofun) (fun _ => nofun) (fun _ _ _ => nofun))⟩)
  · exact .inr h
mutual
theorem Rep.ext (S : SimH K w mg c) (E : Ext c c') : ∀ (d : D) (v : V), Rep K w mg c d v → Rep K w mg c' d v
  | .non, _, h => by simpa [Rep] using h
  | .bl _, _, h => by simpa [Rep] using h
  | .int _, _, h => by simpa [Rep] using h
  | .str _, _, h => by simpa [Rep] using h
  | .ty _, _, h => by simpa [Rep] using h
  | .glb _, _, h => by simpa [Rep] using h
  | .scr ns, v, h => by
    unfold Rep at h ⊢
    obtain ⟨a, e, hl, q⟩ := h
    rcases q with ⟨q | ⟨o, q⟩, f⟩ | q
    · exact ⟨a, e, hl, .inl ⟨.inl (E.keep _ _ q f), E.froz S q f⟩⟩
    · exact ⟨a, e, hl, .inl ⟨.inr ⟨o, E.keep _ _ q f⟩, E.froz S q f⟩⟩
    · exact ⟨a, e, hl, .inr q⟩
  | .loc n, v, h => by
    unfold Rep at h ⊢
    obtain ⟨a, e, q⟩ := h
    exact ⟨a, E.ms e, q⟩
  | .tup ds, v, h => by
    unfold Rep at h ⊢
    obtain ⟨a, vs, e, q, r, z⟩ := h
    exact ⟨a, vs, e, SqT_ext S E q, RepL.ext S E ds vs r, z⟩
  | .lst ds, v, h => by
    unfold Rep at h ⊢
    obtain ⟨a, vs, e, q, f, r, z⟩ := h
    exact ⟨a, vs, e, E.keep _ _ q f, E.froz S q f, RepL.ext S E ds vs r, z⟩
  | .dic ks ds, v, h => by
    unfold Rep at h ⊢
    obtain ⟨a, vs, e, l, r, q, f⟩ := h
    exact ⟨a, vs, e, l, RepL.ext S E ds vs r, E.keep _ _ q f, E.froz S q f⟩
  | .tab ks ds, v, h => by
    unfold Rep at h ⊢
    obtain ⟨a, vs, e, l, r, q⟩ := h
    exact ⟨a, vs, e, l, RepL.ext S E ds vs r, q⟩
theorem RepL.ext (S : SimH K w mg c) (E : Ext c c') : ∀ (ds : List D) (vs : List V), RepL K w mg c ds vs → RepL K w mg c' ds vs
  | [], vs, h => by
    rw [RepL.of_nil h]
    exact .nil
  | d :: ds, vs, h => by
    obtain ⟨v, r, rfl, h1, h2⟩ := RepL.of_cons h
    exact .cons (Rep.ext S E d v h1) (RepL.ext S E ds r h2)
end
theorem SimE.ext (S : SimH K w mg c) (E : Ext c c') {env : Env} {σ : St} (h : SimE K w mg c env σ) : SimE K w mg c' env σ :=
  ⟨h.1, fun i d e => let ⟨v, e2, r⟩ := h.2 i d e; ⟨v, e2, Rep.ext S E d v r⟩⟩
theorem RepX.ext (S : SimH K w mg c) (E : Ext c c') {x : Xn} {cls : Value} {dd : Option Addr} (h : RepX K w mg c x cls dd) : RepX K w mg c' x cls dd := by
  obtain ⟨C, e1, e2, h⟩ := h
  refine ⟨C, e1, e2, ?_⟩
  rcases h with h | ⟨d, vs, e3, q, l, r⟩
  · exact .inl h
  · exact .inr ⟨d, vs, e3, E.keep _ _ q (S.froz q (fun _ => nofun) (fun _ => nofun) (fun _ _ _ => nofun)), l, RepL.ext S E _ _ r⟩
/-- something new is laid beside -/
theorem Ext.laid {ms : List Addr} {h : Hh} {H : Hp} {p : Addr} {o : HO} (hp : H p = none) : Ext ⟨ms, h, H⟩ ⟨ms, h, upd H p o⟩ := by
  refine ⟨⟨[], by simp⟩, Nat.le_refl _, fun _ h => h, fun n a hn e => ?_, fun b u q _ => ?_, fun b q => ?_⟩
  · exfalso
    have e2 : ms[n]? = some a := e
    rw [List.getElem?_eq_none hn] at e2
    cases e2
  · show upd H p o b = some u
    rw [upd_ne (ne_of_none q hp)]
    exact q
  · have q2 : upd H p o b = none := q
    show H b = none
    by_cases z : b = p
    · rw [z]
      exact hp
    · rwa [upd_ne z] at q2
theorem RepO.ext (S : SimH K w mg c) (E : Ext c c') {o : O} {a : Addr} (k : c'.H a = c.H a) (h : RepO K w mg c o a) : RepO K w mg c' o a := by
  cases o with
  | lst ds =>
    obtain ⟨vs, q, r, z⟩ := h
    exact ⟨vs, k.trans q, RepL.ext S E _ _ r, z⟩
  | dic ks ds =>
    obtain ⟨vs, q, l, r⟩ := h
    exact ⟨vs, k.trans q, l, RepL.ext S E _ _ r⟩
  | ins C fs ds =>
    obtain ⟨Ca, dx, vs, q1, q, l, r⟩ := h
    exact ⟨Ca, dx, vs, q1, k.trans q, l, RepL.ext S E _ _ r⟩
theorem RepO.some {o : O} {a : Addr} (h : RepO K w mg c o a) : ∃ u, c.H a = some u := by
  cases o with
  | lst ds =>
    obtain ⟨vs, q, r⟩ := h
    exact ⟨_, q⟩
  | dic ks ds =>
    obtain ⟨vs, q, l, r⟩ := h
    exact ⟨_, q⟩
  | ins C fs ds =>
    obtain ⟨Ca, dx, vs, q1, q, l, r⟩ := h
    exact ⟨_, q⟩
theorem SimH.laid {ms : List Addr} {h : Hh} {H : Hp} {p : Addr} {o : HO} (S : SimH K w mg ⟨ms, h, H⟩) (hp : H p = none) : SimH K w mg ⟨ms, h, upd H p o⟩ := by
  refine ⟨S.len, S.nd, fun n a e q => S.all n a e ((Ext.laid (ms := ms) (h := h) hp).there a q), fun n ob hn => ?_⟩
  obtain ⟨a, ea, ro⟩ := S.live n ob hn
  refine ⟨a, ea, ro.ext S (Ext.laid hp) ?_⟩
  obtain ⟨u, hu⟩ := ro.some
  show upd H p o a = H a
  rw [upd_ne (ne_of_none (show H a = some u from hu) hp)]
/-- an object is written -/
theorem Ext.put {ms : List Addr} {h : Hh} {H : Hp} {n : Nat} {a : Addr} {o : O} {u : HO} {oo : O} (S : SimH K w mg ⟨ms, h, H⟩) (hn : h[n]? = some (some o)) (ha : ms[n]? = some a) : Ext ⟨ms, h, H⟩ ⟨ms, h.set n (some oo), upd H a u⟩ := by
  refine ⟨⟨[], by simp⟩, by simp, fun m hm => ?_, fun m b hm e => ?_, fun b v q f => ?_, fun b q => ?_⟩
  · show (h.set n (some oo))[m]? = some none
    have hm2 : h[m]? = some none := hm
    by_cases z : n = m
    · subst z
      rw [hn] at hm2
      cases hm2
    · rw [List.getElem?_set_ne z]
      exact hm2
  · exfalso
    have e2 : ms[m]? = some b := e
    rw [List.getElem?_eq_none hm] at e2
    cases e2
  · show upd H a u b = some v
    have z : b ≠ a := fun z => f n o hn (by rw [z]; exact ha)
    rw [upd_ne z]
    exact q
  · have q2 : upd H a u b = none := q
    by_cases z : b = a
    · rw [z, upd_same] at q2
      cases q2
    · rwa [upd_ne z] at q2
theorem SimH.put {ms : List Addr} {h : Hh} {H : Hp} {n : Nat} {a : Addr} {o oo : O} {u : HO} (S : SimH K w mg ⟨ms, h, H⟩) (hn : h[n]? = some (some o)) (ha : ms[n]? = some a) (r : RepO K w mg ⟨ms, h.set n (some oo), upd H a u⟩ oo a) :
    SimH K w mg ⟨ms, h.set n (some oo), upd H a u⟩ := by
  refine ⟨by rw [show (⟨ms, h.set n (some oo), upd H a u⟩ : Cz).ms.length = ms.length from rfl]; simpa using S.len, S.nd, fun m b e q => S.all m b e ((Ext.put (u := u) (oo := oo) S hn ha).there b q), fun m ob hm => ?_⟩
  have hm2 : (h.set n (some oo))[m]? = some (some ob) := hm
  by_cases z : n = m
  · subst z
    have l : n < h.length := by
      by_cases q : n < h.length
      · exact q
      · rw [List.getElem?_eq_none (by omega)] at hn
        cases hn
    rw [List.getElem?_set_self l] at hm2
    cases hm2
    exact ⟨a, ha, r⟩
  · rw [List.getElem?_set_ne z] at hm2
    obtain ⟨b, eb, ro⟩ := S.live m ob hm2
    refine ⟨b, eb, ro.ext S (Ext.put S hn ha) ?_⟩
    show upd H a u b = H b
    rw [upd_ne]
    intro q
    subst q
    exact z (S.nd n m b ha eb)
/-- a new object of the small heap -/
theorem Ext.new_ {ms : List Addr} {h : Hh} {H : Hp} {p : Addr} {oo : Option O} {u : HO} (S : SimH K w mg ⟨ms, h, H⟩) (hp : H p = none) : Ext ⟨ms, h, H⟩ ⟨ms ++ [p], h ++ [oo], upd H p u⟩ := by
  have L := S.len
  refine ⟨⟨[p], rfl⟩, by simp, fun m hm => ?_, fun m b hm e => ?_, (Ext.laid (h := h) (ms := ms) hp).keep, (Ext.laid (h := h) (ms := ms) hp).there⟩
  · have hm2 : h[m]? = some none := hm
    show (h ++ [oo])[m]? = some none
    rw [List.getElem?_append_left]
    · exact hm2
    · by_cases q : m < h.length
      · exact q
      · rw [List.getElem?_eq_none (by omega)] at hm2
        cases hm2
  · have e2 : (ms ++ [p])[m]? = some b := e
    have hm2 : ms.length ≤ m := hm
    rw [List.getElem?_append_right hm2] at e2
    have z : m - ms.length = 0 := by
      by_cases q : m - ms.length = 0
      · exact q
      · rw [List.getElem?_eq_none (by simp; omega)] at e2
        cases e2
    rw [z] at e2
    simp at e2
    subst e2
    exact hp
theorem SimH.new_ {ms : List Addr} {h : Hh} {H : Hp} {p : Addr} {oo : O} {u : HO} (S : SimH K w mg ⟨ms, h, H⟩) (hp : H p = none) (r : RepO K w mg ⟨ms ++ [p], h ++ [some oo], upd H p u⟩ oo p) :
    SimH K w mg ⟨ms ++ [p], h ++ [some oo], upd H p u⟩ := by
  have L : ms.length = h.length := S.len
  have nop : ∀ n : Nat, ms[n]? ≠ some p := fun n hb => S.all n p hb hp
  refine ⟨by show (ms ++ [p]).length = (h ++ [some oo]).length; simp [L], fun i j a ei ej => ?_, fun n a e q => ?_, fun m ob hm => ?_⟩
  · have ei2 : (ms ++ [p])[i]? = some a := ei
    have ej2 : (ms ++ [p])[j]? = some a := ej
    have look : ∀ n : Nat, (ms ++ [p])[n]? = some a → (n < ms.length ∧ ms[n]? = some a) ∨ (n = ms.length ∧ a = p) := fun n e => by
      by_cases q : n < ms.length
      · rw [List.getElem?_append_left q] at e
        exact .inl ⟨q, e⟩
      · rw [List.getElem?_append_right (by omega)] at e
        by_cases z : n - ms.length = 0
        · rw [z] at e
          simp at e
          exact .inr ⟨by omega, e.symm⟩
        · rw [List.getElem?_eq_none (by simp; omega)] at e
          cases e
    rcases look i ei2 with ⟨_, q1⟩ | ⟨q1, q2⟩ <;> rcases look j ej2 with ⟨_, q3⟩ | ⟨q3, q4⟩
    · exact S.nd i j a q1 q3
    · rw [q4] at q1
      exact absurd q1 (nop i)
    · rw [q2] at q3
      exact absurd q3 (nop j)
    · omega
  · have e2 : (ms ++ [p])[n]? = some a := e
    by_cases z : n < ms.length
    · rw [List.getElem?_append_left z] at e2
      exact S.all n a e2 ((Ext.new_ (oo := some oo) (u := u) S hp).there a q)
    · rw [List.getElem?_append_right (by omega)] at e2
      by_cases z2 : n - ms.length = 0
      · rw [z2] at e2
        simp at e2
        subst e2
        have q2 : upd H p u p = none := q
        rw [upd_same] at q2
        cases q2
      · rw [List.getElem?_eq_none (by simp; omega)] at e2
        cases e2
  · have hm2 : (h ++ [some oo])[m]? = some (some ob) := hm
    by_cases q : m < h.length
    · rw [List.getElem?_append_left q] at hm2
      obtain ⟨b, eb, ro⟩ := S.live m ob hm2
      refine ⟨b, (Ext.new_ (oo := some oo) (u := u) S hp).ms eb, ro.ext S (Ext.new_ S hp) ?_⟩
      obtain ⟨v, hv⟩ := ro.some
      show upd H p u b = H b
      rw [upd_ne (ne_of_none (show H b = some v from hv) hp)]
    · have z : m = h.length := by
        by_cases z : m = h.length
        · exact z
        · rw [List.getElem?_eq_none (by simp; omega)] at hm2
          cases hm2
      subst z
      rw [List.getElem?_append_right (Nat.le_refl _)] at hm2
      simp at hm2
      subst hm2
      refine ⟨p, ?_, r⟩
      show (ms ++ [p])[h.length]? = some p
      rw [← L, List.getElem?_append_right (Nat.le_refl _)]
      simp
end
end Dn

/-! text DnC -/
set_option maxHeartbeats 1000000
set_option Elab.async false
set_option linter.all false
set_option maxRecDepth 100000
set_option autoImplicit false
/-! Dn, part C: judgements: an expression, a test, a statement does what a piece does. -/
namespace Dn
open PySem L2
section
variable {α β γ δ : Type}
/-- what is wanted of a piece's end -/
def Post (K : PySem.W.Frag) (w : World) (mg : Str → Option Value) (P : Cz → α → β → Prop) (W : WX) (c : Cz) (σ : St) (Q : β → Hp → Prop) : R α → Prop
  | .ok a h' => ∀ (ms' : List Addr) (H' : Hp) (b : β), Ext c ⟨ms', h', H'⟩ → SimH K w mg ⟨ms', h', H'⟩ → P ⟨ms', h', H'⟩ a b → Q b H'
  | .exc x h' => ∀ (ms' : List Addr) (H' : Hp) (cls : Value) (dd : Option Addr), Ext c ⟨ms', h', H'⟩ → SimH K w mg ⟨ms', h', H'⟩ → RepX K w mg ⟨ms', h', H'⟩ x cls dd → W cls dd σ H'
  | .no => False
variable {K : PySem.W.Frag} {w : World} {mg : Str → Option Value} {W : WX} {P : Cz → α → β → Prop} {P' : Cz → γ → δ → Prop} {c c1 : Cz} {σ : St} {Q : δ → Hp → Prop}
theorem Post.ext (S : SimH K w mg c) (E : Ext c c1) {r : R γ} (p : Post K w mg P' W c σ Q r) : Post K w mg P' W c1 σ Q r := by
  cases r with
  | ok a h => exact fun ms' H' b E' S' q => p ms' H' b (E.trans S E') S' q
  | exc x h => exact fun ms' H' cls dd E' S' q => p ms' H' cls dd (E.trans S E') S' q
  | no => exact p
theorem Post.bind (S : SimH K w mg c) {K1 : β → Hp → Prop} {r : R α} {g : α → Hh → R γ} (p : Post K w mg P' W c σ Q (r.bind g))
    (k : ∀ a h1 ms1 H1 b, Ext c ⟨ms1, h1, H1⟩ → SimH K w mg ⟨ms1, h1, H1⟩ → P ⟨ms1, h1, H1⟩ a b → Post K w mg P' W ⟨ms1, h1, H1⟩ σ Q (g a h1) → K1 b H1) : Post K w mg P W c σ K1 r := by
  cases r with
  | ok a h1 => exact fun ms1 H1 b E S1 q => k a h1 ms1 H1 b E S1 q (Post.ext S E p)
  | exc x h => exact p
  | no => exact p
theorem Post.at (S : SimH K w mg c) {a : γ} {b : δ} (p : Post K w mg P' W c σ Q (.ok a c.h)) (q : P' c a b) : Q b c.H := p c.ms c.H b Ext.refl S q
theorem Post.new (S : SimH K w mg c) {a : γ} {b : δ} {q : Addr} {o : HO} (p : Post K w mg P' W c σ Q (.ok a c.h)) (hq : c.H q = none) (r : P' ⟨c.ms, c.h, upd c.H q o⟩ a b) : Q b (upd c.H q o) :=
  p c.ms (upd c.H q o) b (Ext.laid hq) (SimH.laid S hq) r
end
section
variable (X : Cx) (W : WX)
def eq_ {α : Type} (_ : Cz) (a b : α) : Prop := a = b
abbrev rep (c : Cz) (d : D) (v : V) : Prop := Rep X.K X.w X.mg c d v
abbrev repL (c : Cz) (d : List D) (v : List V) : Prop := RepL X.K X.w X.mg c d v
abbrev PostX {α β : Type} (P : Cz → α → β → Prop) (c : Cz) (σ : St) (Q : β → Hp → Prop) (r : R α) : Prop := Post X.K X.w X.mg P W c σ Q r
abbrev simH (c : Cz) : Prop := SimH X.K X.w X.mg c
abbrev simE (c : Cz) (env : Env) (σ : St) : Prop := SimE X.K X.w X.mg c env σ
/-- the reading of a piece -/
def tG {α β : Type} (P : Cz → α → β → Prop) (f : Env → Hh → R α) : St → Hp → (β → Hp → Prop) → Prop := fun σ H Q => ∃ ms env h, simH X ⟨ms, h, H⟩ ∧ simE X ⟨ms, h, H⟩ env σ ∧ PostX X W P ⟨ms, h, H⟩ σ Q (f env h)
def Den (e : Expr) (f : DE) : Prop := PE X e (tG X W (rep X) f)
def DenA (es : List Expr) (f : DA) : Prop := PA X es (tG X W (repL X) f)
def DenT (e : Expr) (f : DT) : Prop := PT X e (tG X W eq_ f)
def DenW (e : Expr) (f : DT) : Prop := PW X e (tG X W eq_ f)
def DenO (e : Option Expr) (f : DO) : Prop := PO X e (tG X W eq_ f)
end
section
variable {X : Cx} {W : WX}
theorem PE.weak {e : Expr} {t t' : TE} (h : PE X e t) (i : ∀ σ H Q, t' σ H Q → t σ H Q) : PE X e t' := ⟨fun pins s σ H Q I q => h.run pins s σ H Q I (i σ H Q q)⟩
theorem PT.weak {e : Expr} {t t' : TT} (h : PT X e t) (i : ∀ σ H Q, t' σ H Q → t σ H Q) : PT X e t' := ⟨fun pins s σ H Q I q => h.run pins s σ H Q I (i σ H Q q)⟩
theorem PW.weak {e : Expr} {t t' : TT} (h : PW X e t) (i : ∀ σ H Q, t' σ H Q → t σ H Q) : PW X e t' := ⟨fun whole pins s σ H Q I q => h.run whole pins s σ H Q I (i σ H Q q)⟩
theorem PA.weak {es : List Expr} {t t' : TA} (h : PA X es t) (i : ∀ σ H Q, t' σ H Q → t σ H Q) : PA X es t' := ⟨fun pos pins s σ H Q I q => h.run pos pins s σ H Q I (i σ H Q q)⟩
theorem PO.weak {e : Option Expr} {t t' : TO} (h : PO X e t) (i : ∀ σ H Q, t' σ H Q → t σ H Q) : PO X e t' := ⟨fun pins s σ H Q I q => h.run pins s σ H Q I (i σ H Q q)⟩
/-- the reading of two pieces, one behind the other -/
theorem tG.bind {α β γ δ : Type} {P : Cz → α → β → Prop} {P' : Cz → γ → δ → Prop} {f : Env → Hh → R α} {g : Env → α → Hh → R γ} {σ : St} {H : Hp} {Q : δ → Hp → Prop} {K1 : β → Hp → Prop}
    (t : tG X W P' (fun env h => (f env h).bind (g env)) σ H Q)
    (k : ∀ env a h1 ms1 H1 b, simH X ⟨ms1, h1, H1⟩ → simE X ⟨ms1, h1, H1⟩ env σ → P ⟨ms1, h1, H1⟩ a b → PostX X W P' ⟨ms1, h1, H1⟩ σ Q (g env a h1) → K1 b H1) : tG X W P f σ H K1 := by
  obtain ⟨ms, env, h, S, SE, p⟩ := t
  exact ⟨ms, env, h, S, SE, Post.bind S p fun a h1 ms1 H1 b E S1 q p1 => k env a h1 ms1 H1 b S1 (SE.ext S E) q p1⟩
/-- .. from a state within -/
theorem tG.of {α β : Type} {P : Cz → α → β → Prop} {f : Env → Hh → R α} {σ : St} {c : Cz} {env : Env} {Q : β → Hp → Prop} (S : simH X c) (SE : simE X c env σ) (p : PostX X W P c σ Q (f env c.h)) : tG X W P f σ c.H Q := ⟨c.ms, env, c.h, S, SE, p⟩

/-! ### names, constants -/
theorem den_var (i : Nat) {x : Str} {pos : Pos} (hN : X.N[i]? = some x := by rfl) (hv : Vis X.env.scope x := by first | exact Or.inl rfl | exact Or.inr (Or.inl rfl) | exact Or.inr (Or.inr rfl)) (hd : (x == ("__debug__" : Str)) = false := by decide)
    (hcd : (x == ("__classdict__" : Str)) = false := by decide) : Den X W (.Name x pos) (eVar i) := by
  refine PE.weak (pe_var hN hv hd hcd) fun σ H Q t => ?_
  obtain ⟨ms, env, h, S, SE, p⟩ := t
  unfold eVar at p
  cases e : env[i]? with
  | none =>
    rw [e] at p
    exact p.elim
  | some o =>
    rw [e] at p
    cases o with
    | none => exact p.elim
    | some d =>
      obtain ⟨v, ev, r⟩ := SE.2 i d e
      exact ⟨v, ev, Post.at (c := ⟨ms, h, H⟩) S p r⟩
theorem den_c {e : Expr} {d : D} {v : V} (h : PE X e (tC v)) (r : ∀ c, rep X c d v) : Den X W e (eC d) := by
  refine PE.weak h fun σ H Q t => ?_
  obtain ⟨ms, env, h, S, SE, p⟩ := t
  exact Post.at (c := ⟨ms, h, H⟩) S p (r _)
theorem den_int {i : Int} {j : Nat} {pos : Pos} : Den X W (.Constant (.int i) j pos) (eC (.int i)) := den_c pe_int fun c => by simp [rep, Rep]
theorem den_bl {b : Bool} {j : Nat} {pos : Pos} : Den X W (.Constant (.bool b) j pos) (eC (.bl b)) := den_c pe_bl fun c => by simp [rep, Rep]
theorem den_non {j : Nat} {pos : Pos} : Den X W (.Constant .none j pos) (eC .non) := den_c pe_non fun c => by simp [rep, Rep]
theorem S_codes (s : String) : ∀ q ∈ S s, q < 1114112 := fun q hq => by
  obtain ⟨c, _, rfl⟩ := List.mem_map.mp hq
  have h := c.valid
  simp only [UInt32.isValidChar, Nat.isValidChar] at h
  have e : c.toNat = c.val.toNat := rfl
  omega
theorem rep_S {c : Cz} {s : String} (h : (S s).length ≤ 1000) : rep X c (.str (S s)) (.str (Str.ofString s)) := by
  unfold rep Rep
  exact ⟨by rw [toS_S], Nat.le_trans h (by decide), S_codes s⟩
theorem den_str {x : Str} (s : String) {j : Nat} {pos : Pos} (e : x = Str.ofString s) (h : (S s).length ≤ 1000 := by decide) : Den X W (.Constant (.str x) j pos) (eC (.str (S s))) := by
  subst e
  exact den_c pe_str fun c => rep_S h
/-- a name of the module that holds this -/
def Glb (K : PySem.W.Frag) (w : World) (mg : Str → Option Value) (x : String) (d : D) : Prop := ∃ u v, mg (Str.ofString x) = some u ∧ RelV v u ∧ ∀ c, Rep K w mg c d v
theorem den_glob {x : Str} {s : String} {d : D} {pos : Pos} (es : x = Str.ofString s) (g : Glb X.K X.w X.mg s d) (hg : Gl X x) (hd : (x == ("__debug__" : Str)) = false := by decide) : Den X W (.Name x pos) (eC d) := by
  obtain ⟨u, v, h1, h2, h3⟩ := g
  subst es
  exact den_c (pe_glob hg h1 h2 hd) h3

/-! ### operators -/
/-- a rule by values does what f does -/
def OpD (r : R2) (f : D → D → Hh → R D) : Prop := ∀ (c : Cz) (d e : D) (x y : V) (σ : St) (Q : VK), simH X c → rep X c d x → rep X c e y → PostX X W (rep X) c σ Q (f d e c.h) → r x y c.H Q
theorem tOp_of {r : R2} {f : D → D → Hh → R D} {fa fb : DE} (hf : OpD (X := X) (W := W) r f) (σ : St) (H : Hp) (Q : VK) (t : tG X W (rep X) (e2 f fa fb) σ H Q) : tOp r (tG X W (rep X) fa) (tG X W (rep X) fb) σ H Q := by
  refine tG.bind t fun env a h1 ms1 H1 x S1 SE1 ra p1 => ?_
  refine tG.of (c := ⟨ms1, h1, H1⟩) S1 SE1 (Post.bind S1 p1 fun b h2 ms2 H2 y E2 S2 rb p2 => ?_)
  exact hf ⟨ms2, h2, H2⟩ a b x y σ Q S2 (Rep.ext S1 E2 _ _ ra) rb p2
theorem den_bin {op : Operator} {r : R2} {f : D → D → Hh → R D} {a b : Expr} {fa fb : DE} {pos : Pos} (ho : OpR X (binaryOp op) r) (hf : OpD (X := X) (W := W) r f) (ha : Den X W a fa) (hb : Den X W b fb) : Den X W (.BinOp a op b pos) (e2 f fa fb) :=
  PE.weak (pe_op ho ha hb) (tOp_of hf)
theorem den_cmp {op : CmpOp} {r : R2} {f : D → D → Hh → R D} {a b : Expr} {fa fb : DE} {pos : Pos} (ho : OpR X (compareOp op) r) (hf : OpD (X := X) (W := W) r f) (ha : Den X W a fa) (hb : Den X W b fb) (hm : behindInMarks op b = false) : Den X W (.Compare a [op] [b] pos) (e2 f fa fb) :=
  PE.weak (pe_cmpR ho ha hb hm) (tOp_of hf)
end
end Dn

/-! text DnD -/
set_option maxHeartbeats 1000000
set_option Elab.async false
set_option linter.all false
set_option maxRecDepth 100000
set_option autoImplicit false
/-! Dn, part D: operators by values. -/
namespace Dn
open PySem L2
section
variable {X : Cx} {W : WX}
theorem rep_int {c : Cz} {i : Int} {x : V} : rep X c (.int i) x ↔ x = .int i := by simp [rep, Rep]
theorem rep_bl {c : Cz} {i : Bool} {x : V} : rep X c (.bl i) x ↔ x = .bl i := by simp [rep, Rep]
theorem rep_non {c : Cz} {x : V} : rep X c .non x ↔ x = .non := by simp [rep, Rep]
theorem rep_str {c : Cz} {t : Tx} {x : V} : rep X c (.str t) x ↔ x = .str (toS t) ∧ t.length ≤ big ∧ ∀ q ∈ t, q < 1114112 := by simp [rep, Rep]
theorem rep_tup {c : Cz} {ds : List D} {x : V} : rep X c (.tup ds) x ↔ ∃ a vs, x = .ref a ∧ SqT X.K c.H a vs ∧ repL X c ds vs ∧ ds.length ≤ big := by simp only [rep, Rep, repL]
theorem rep_lst {c : Cz} {ds : List D} {x : V} : rep X c (.lst ds) x ↔ ∃ a vs, x = .ref a ∧ c.H a = some (.lst vs) ∧ Froz c a ∧ repL X c ds vs ∧ ds.length ≤ big := by simp only [rep, Rep, repL]
theorem rep_loc {c : Cz} {n : Nat} {x : V} : rep X c (.loc n) x ↔ ∃ a, c.ms[n]? = some a ∧ x = .ref a := by simp only [rep, Rep]
theorem big_eq : big = sizeLine := by rw [sizeLine_eq]; rfl
theorem toS_append (s t : Tx) : toS (s ++ t) = toS s ++ toS t := by
  show (⟨(s ++ t).toArray⟩ : Str) = ⟨s.toArray ++ t.toArray⟩
  simp
theorem toS_length (t : Tx) : (toS t).length = t.length := by
  show t.toArray.size = t.length
  simp
/-- a live object -/
theorem live_at {c : Cz} {n : Nat} {x : V} {o : O} (S : simH X c) (hn : c.h[n]? = some (some o)) (r : rep X c (.loc n) x) : ∃ a, c.ms[n]? = some a ∧ x = .ref a ∧ RepO X.K X.w X.mg c o a := by
  obtain ⟨a, ea, rfl⟩ := rep_loc.mp r
  obtain ⟨b, eb, ro⟩ := S.live n o hn
  rw [ea] at eb
  cases eb
  exact ⟨a, ea, rfl, ro⟩
theorem new_lst {c : Cz} (S : simH X c) {q : Addr} (hq : c.H q = none) {ds : List D} {vs : List V} (r : repL X c ds vs) (z : ds.length ≤ big) : rep X ⟨c.ms, c.h, upd c.H q (.lst vs)⟩ (.lst ds) (.ref q) :=
  rep_lst.mpr ⟨q, vs, rfl, upd_same, fun n o _ hb => S.all n q hb hq, RepL.ext S (Ext.laid hq) _ _ r, z⟩
theorem new_tup {c : Cz} (S : simH X c) {q : Addr} (hq : c.H q = none) {ds : List D} {vs : List V} (r : repL X c ds vs) (z : ds.length ≤ big) : rep X ⟨c.ms, c.h, upd c.H q (.tup vs)⟩ (.tup ds) (.ref q) :=
  rep_tup.mpr ⟨q, vs, rfl, .inl (.inl upd_same), RepL.ext S (Ext.laid hq) _ _ r, z⟩
theorem repL_len {c : Cz} {ds : List D} {vs : List V} (r : repL X c ds vs) : ds.length = vs.length := RepL.length r

/-! ### + - * // % ** -/
def rAddAll (K : PySem.W.Frag) : R2 := fun x y H Q => (rI0 fun i j => .int (i + j)) x y H Q ∨ ((∃ i j, x = .str i ∧ y = .str j ∧ i.length + j.length ≤ sizeLine ∧ Q (.str (i ++ j)) H) ∨ (rCat x y H Q ∨ rCatA K x y H Q))
theorem op_addAll : OpR X (binaryOp .Add) (rAddAll X.K) := op_add.or (op_add_str.or (op_cat.or op_catA))
theorem opD_add : OpD (X := X) (W := W) (rAddAll X.K) opAdd := by
  intro c d e x y σ Q S rd re p
  cases d <;> cases e <;> first | exact False.elim p | skip
  case int.int i j =>
    exact .inl ⟨i, j, rep_int.mp rd, rep_int.mp re, Post.at S (show PostX X W (rep X) c σ Q (.ok (.int (i + j)) c.h) from p) (rep_int.mpr rfl)⟩
  case str.str s t =>
    obtain ⟨e1, z1, c1⟩ := rep_str.mp rd
    obtain ⟨e2, z2, c2⟩ := rep_str.mp re
    have p2 : PostX X W (rep X) c σ Q (if s.length + t.length ≤ big then .ok (.str (s ++ t)) c.h else .no) := p
    by_cases hz : s.length + t.length ≤ big
    · rw [if_pos hz] at p2
      refine .inr (.inl ⟨_, _, e1, e2, by rw [toS_length, toS_length, ← big_eq]; exact hz, Post.at S p2 (rep_str.mpr ⟨by rw [toS_append], by simpa using hz, fun q hq => ?_⟩)⟩)
      rcases List.mem_append.mp hq with hq | hq
      · exact c1 q hq
      · exact c2 q hq
    · rw [if_neg hz] at p2
      exact False.elim p2
  case tup.tup s t =>
    obtain ⟨a, xs, e1, q1, r1, z1⟩ := rep_tup.mp rd
    obtain ⟨b, ys, e2, q2, r2, z2⟩ := rep_tup.mp re
    have p2 : PostX X W (rep X) c σ Q (if s ≠ [] ∧ s.length + t.length ≤ big then .ok (.tup (s ++ t)) c.h else .no) := p
    by_cases hz : s ≠ [] ∧ s.length + t.length ≤ big
    · rw [if_pos hz] at p2
      have l1 := repL_len r1
      have l2 := repL_len r2
      refine .inr (.inr (.inr ⟨a, b, xs, ys, e1, e2, q1, q2, by rw [← l1, ← l2, ← big_eq]; exact hz.2, fun e => ?_, fun h1 e => ?_, fun _ _ q hq => ?_⟩))
      · exfalso
        rw [e] at l1
        exact hz.1 (List.eq_nil_of_length_eq_zero l1)
      · have e3 : t = [] := by
          rw [e] at l2
          exact List.eq_nil_of_length_eq_zero l2
        subst e3
        rw [List.append_nil] at p2
        exact Post.at S p2 (rep_tup.mpr ⟨a, xs, rfl, q1, r1, z1⟩)
      · exact Post.new S p2 hq (new_tup S hq (RepL.append r1 r2) (by simpa using hz.2))
    · rw [if_neg hz] at p2
      exact False.elim p2
  case lst.lst s t =>
    obtain ⟨a, xs, e1, q1, f1, r1, z1⟩ := rep_lst.mp rd
    obtain ⟨b, ys, e2, q2, f2, r2, z2⟩ := rep_lst.mp re
    have p2 : PostX X W (rep X) c σ Q (if s.length + t.length ≤ big then .ok (.lst (s ++ t)) c.h else .no) := p
    by_cases hz : s.length + t.length ≤ big
    · rw [if_pos hz] at p2
      exact .inr (.inr (.inl ⟨a, b, xs, ys, e1, e2, q1, q2, by rw [← repL_len r1, ← repL_len r2, ← big_eq]; exact hz, fun q hq => Post.new S p2 hq (new_lst S hq (RepL.append r1 r2) (by simpa using hz))⟩))
    · rw [if_neg hz] at p2
      exact False.elim p2
theorem opD_sub : OpD (X := X) (W := W) (rI0 fun i j => .int (i - j)) opSub := by
  intro c d e x y σ Q S rd re p
  cases d <;> cases e <;> first | exact False.elim p | skip
  case int.int i j =>
    exact ⟨i, j, rep_int.mp rd, rep_int.mp re, Post.at S (show PostX X W (rep X) c σ Q (.ok (.int (i - j)) c.h) from p) (rep_int.mpr rfl)⟩
theorem word64_ok {i : Int} (h : word64 i = true) : -(2 ^ 64) < i ∧ i < 2 ^ 64 := by
  unfold word64 at h
  simpa using h
/-- a text so many times -/
def rMulS : R2 := fun x y H Q => ∃ z n, x = .str z ∧ y = .int n ∧ MulOk z n ∧ Q (.str (Txt.mul z n)) H
theorem op_mulS : OpR X (binaryOp .Mult) rMulS := by
  intro pins s σ H x y v u Q I rx ry h
  obtain ⟨z, n, rfl, rfl, ok, q⟩ := h
  obtain ⟨t, rfl⟩ := rx
  obtain ⟨t2, rfl⟩ := ry
  exact PySem.SB.mul ok fun t' k => ⟨.str _, H, by
    obtain ⟨h, g, d, tk, o⟩ := s
    exact I.un Un.refl I.hok, ⟨_, rfl⟩, q⟩
theorem fold_flat (l : Array Nat) : ∀ (n : Nat) (a : Array Nat), (List.replicate n l).foldl (· ++ ·) a = a ++ (List.replicate n l.toList).flatten.toArray
  | 0, a => by simp
  | n + 1, a => by
    rw [List.replicate_succ, List.foldl_cons, fold_flat l n, List.replicate_succ, List.flatten_cons, Array.append_assoc]
    congr 1
    exact Array.ext' (by simp)
theorem mul_flat (s : Tx) {j : Int} (h0 : 0 ≤ j) : Txt.mul (toS s) j = toS (List.replicate j.toNat s).flatten := by
  unfold Txt.mul
  by_cases h1 : j < 1
  · have e : j.toNat = 0 := by omega
    rw [if_pos h1, e]
    rfl
  · rw [if_neg h1]
    by_cases h2 : (j == 1 || (toS s).length == 0) = true
    · rw [if_pos h2]
      rcases Bool.or_eq_true_iff.mp h2 with h2 | h2
      · rw [beq_iff_eq.mp h2]
        simp
      · have e : s = [] := List.length_eq_zero_iff.mp (by rw [← toS_length]; exact beq_iff_eq.mp h2)
        subst e
        have : (List.replicate j.toNat ([] : List Nat)).flatten = [] := by
          rw [List.flatten_eq_nil_iff]
          intro l hl
          exact (List.mem_replicate.mp hl).2
        rw [this]
    · rw [if_neg h2, fold_flat]
      show (⟨_⟩ : Str) = ⟨_⟩
      simp [toS]
theorem opD_mul : OpD (X := X) (W := W) (fun x y H Q => (rI CMul fun i j => .int (i * j)) x y H Q ∨ rMulS x y H Q) opMul := by
  intro c d e x y σ Q S rd re p
  cases d <;> cases e <;> first | exact False.elim p | skip
  case int.int i j =>
    have p2 : PostX X W (rep X) c σ Q (if (word64 i || word64 j) = true then .ok (.int (i * j)) c.h else .no) := p
    by_cases hz : (word64 i || word64 j) = true
    · rw [if_pos hz] at p2
      refine .inl ⟨i, j, rep_int.mp rd, rep_int.mp re, ?_, Post.at S p2 (rep_int.mpr rfl)⟩
      rcases Bool.or_eq_true_iff.mp hz with h | h
      · exact .inl (word64_ok h)
      · exact .inr (word64_ok h)
    · rw [if_neg hz] at p2
      exact False.elim p2
  case str.int s j =>
    obtain ⟨e1, z1, c1⟩ := rep_str.mp rd
    have p2 : PostX X W (rep X) c σ Q (if 0 ≤ j ∧ j ≤ 1000000 ∧ s.length * j.toNat ≤ big then .ok (.str (List.replicate j.toNat s).flatten) c.h else .no) := p
    by_cases hz : 0 ≤ j ∧ j ≤ 1000000 ∧ s.length * j.toNat ≤ big
    · rw [if_pos hz] at p2
      obtain ⟨g0, g1, g2⟩ := hz
      refine .inr ⟨toS s, j, e1, rep_int.mp re, ⟨?_, fun _ _ => ?_, fun _ _ => ?_⟩, Post.at S p2 (rep_str.mpr ⟨congrArg V.str (mul_flat s g0), ?_, fun q hq => ?_⟩)⟩
      · have h1 : ¬ j < -(2 ^ 63 : Int) := by omega
        have h2 : ¬ j ≥ 2 ^ 63 := by omega
        rw [decide_eq_false h1, decide_eq_false h2]
        rfl
      · rw [toS_length]
        intro hgt
        have b : s.length ≤ 16777216 := z1
        have : (s.length : Int) ≤ (2 ^ 63 - 1) / j := by
          refine (Int.le_ediv_iff_mul_le (by omega)).mpr ?_
          have : (s.length : Int) * j ≤ 16777216 * 1000000 := Int.mul_le_mul (by omega) g1 g0 (by decide)
          omega
        omega
      · rw [toS_length]
        have g3 : s.length * j.toNat ≤ sizeLine := by rw [← big_eq]; exact g2
        exact decide_eq_false (Nat.not_lt.mpr g3)
      · rw [List.length_flatten, List.map_replicate, List.sum_replicate_nat]
        rw [Nat.mul_comm]
        exact g2
      · obtain ⟨l, hl, hq2⟩ := List.mem_flatten.mp hq
        rw [(List.mem_replicate.mp hl).2] at hq2
        exact c1 q hq2
    · rw [if_neg hz] at p2
      exact False.elim p2
theorem opD_div : OpD (X := X) (W := W) (rI CDivW fun i j => .int (i / j)) opDiv := by
  intro c d e x y σ Q S rd re p
  cases d <;> cases e <;> first | exact False.elim p | skip
  case int.int i j =>
    have p2 : PostX X W (rep X) c σ Q (if 0 < j ∧ j < 2 ^ 8999 then .ok (.int (i / j)) c.h else .no) := p
    by_cases hz : 0 < j ∧ j < 2 ^ 8999
    · rw [if_pos hz] at p2
      refine ⟨i, j, rep_int.mp rd, rep_int.mp re, wide_div (b := 8999) hz.1 ?_ (by decide) (by decide), Post.at S p2 (rep_int.mpr rfl)⟩
      have h1 := hz.1
      have h2 := hz.2
      generalize 8999 = n at h2 ⊢
      have h3 : ((2 ^ n : Nat) : Int) = (2 : Int) ^ n := by simp
      omega
    · rw [if_neg hz] at p2
      exact False.elim p2
theorem opD_mod : OpD (X := X) (W := W) (rI (fun _ j => 0 < j) fun i j => .int (i % j)) opMod := by
  intro c d e x y σ Q S rd re p
  cases d <;> cases e <;> first | exact False.elim p | skip
  case int.int i j =>
    have p2 : PostX X W (rep X) c σ Q (if 0 < j then .ok (.int (i % j)) c.h else .no) := p
    by_cases hz : 0 < j
    · rw [if_pos hz] at p2
      exact ⟨i, j, rep_int.mp rd, rep_int.mp re, hz, Post.at S p2 (rep_int.mpr rfl)⟩
    · rw [if_neg hz] at p2
      exact False.elim p2
theorem opD_pow : OpD (X := X) (W := W) (rI CPow fun i j => .int (i ^ j.toNat)) opPow := by
  intro c d e x y σ Q S rd re p
  cases d <;> cases e <;> first | exact False.elim p | skip
  case int.int i j =>
    have p2 : PostX X W (rep X) c σ Q (if 0 ≤ j ∧ j ≤ 1000000 ∧ i.natAbs < 2 ^ 64 then .ok (.int (i ^ j.toNat)) c.h else .no) := p
    by_cases hz : 0 ≤ j ∧ j ≤ 1000000 ∧ i.natAbs < 2 ^ 64
    · rw [if_pos hz] at p2
      exact ⟨i, j, rep_int.mp rd, rep_int.mp re, hz, Post.at S p2 (rep_int.mpr rfl)⟩
    · rw [if_neg hz] at p2
      exact False.elim p2

/-! ### comparisons -/
mutual
def toPy : D → PyData
  | .non => .none
  | .bl b => .bool b
  | .int i => .int i
  | .str t => .str (toS t)
  | .tup ds => .tuple (toPys ds)
  | .lst ds => .list (toPys ds)
  | _ => .none
def toPys : List D → List PyData
  | [] => []
  | d :: ds => toPy d :: toPys ds
end
theorem toPys_map (ds : List D) : toPys ds = ds.map toPy := by
  induction ds with
  | nil => simp [toPys]
  | cons d ds ih => simp [toPys, ih]
mutual
theorem dp_of {c : Cz} (S : simH X c) : ∀ (n : Nat) (d : D) (v : V), isData n d = true → rep X c d v → Dp X.K c.H v (toPy d) ∧ (toPy d).canLay0 = true ∧ (toPy d).depth ≤ n
  | n, .non, v, _, r => by
    rw [rep_non.mp r]
    exact ⟨.non, rfl, Nat.zero_le _⟩
  | n, .bl b, v, _, r => by
    rw [rep_bl.mp r]
    exact ⟨.bl b, rfl, Nat.zero_le _⟩
  | n, .int i, v, _, r => by
    rw [rep_int.mp r]
    exact ⟨.int i, rfl, Nat.zero_le _⟩
  | n, .str t, v, _, r => by
    obtain ⟨e, _, h⟩ := rep_str.mp r
    rw [e]
    refine ⟨.str _, ?_, Nat.zero_le _⟩
    show PyData.strOk (toS t) = true
    unfold PyData.strOk toS
    simpa using h
  | n + 1, .tup ds, v, h, r => by
    obtain ⟨a, vs, e, q, rs, _⟩ := rep_tup.mp r
    obtain ⟨h1, h2, h3⟩ := dps_of S n ds vs (by simpa [isData] using h) rs
    rw [e]
    exact ⟨.tup q h1, by show PyData.canLayAll0 _ = true; exact h2, by show PyData.depthAll _ + 1 ≤ n + 1; omega⟩
  | n + 1, .lst ds, v, h, r => by
    obtain ⟨a, vs, e, q, _, rs, _⟩ := rep_lst.mp r
    obtain ⟨h1, h2, h3⟩ := dps_of S n ds vs (by simpa [isData] using h) rs
    rw [e]
    exact ⟨.lst (SqL.of q) h1, by show PyData.canLayAll0 _ = true; exact h2, by show PyData.depthAll _ + 1 ≤ n + 1; omega⟩
  | 0, .tup ds, v, h, r => by simp [isData] at h
  | 0, .lst ds, v, h, r => by simp [isData] at h
  | n, .ty _, v, h, r => by simp [isData] at h
  | n, .glb _, v, h, r => by simp [isData] at h
  | n, .scr _, v, h, r => by simp [isData] at h
  | n, .loc _, v, h, r => by simp [isData] at h
  | n, .dic _ _, v, h, r => by simp [isData] at h
  | n, .tab _ _, v, h, r => by simp [isData] at h
theorem dps_of {c : Cz} (S : simH X c) : ∀ (n : Nat) (ds : List D) (vs : List V), areData n ds = true → repL X c ds vs → DpAll X.K c.H vs (toPys ds) ∧ PyData.canLayAll0 (toPys ds) = true ∧ PyData.depthAll (toPys ds) ≤ n
  | n, [], vs, _, r => by
    rw [RepL.of_nil r]
    exact ⟨.nil, rfl, Nat.zero_le _⟩
  | n, d :: ds, vs, h, r => by
    obtain ⟨v, us, rfl, r1, r2⟩ := RepL.of_cons r
    have h0 : (isData n d && areData n ds) = true := by simpa [areData] using h
    obtain ⟨h1, h2⟩ := Bool.and_eq_true_iff.mp h0
    obtain ⟨a1, a2, a3⟩ := dp_of S n d v h1 r1
    obtain ⟨b1, b2, b3⟩ := dps_of S n ds us h2 r2
    exact ⟨.cons a1 b1, by show (PyData.canLay0 _ && PyData.canLayAll0 _) = true; rw [a2, b2]; rfl, by show max _ _ ≤ n; omega⟩
end
theorem beq_toS (s t : Tx) : (toS s == toS t) = (s == t) := by
  rw [Bool.eq_iff_iff]
  simp [toS_inj]
mutual
theorem eqv_py : ∀ (d e : D) (n m : Nat), isData n d = true → isData m e = true → PyData.eqv (toPy d) (toPy e) = eqv d e
  | .non, e, n, m, hd, he => by cases e <;> first | rfl | (exfalso; simp [isData] at he; done)
  | .bl _, e, n, m, hd, he => by cases e <;> first | rfl | (exfalso; simp [isData] at he; done)
  | .int _, e, n, m, hd, he => by cases e <;> first | rfl | (exfalso; simp [isData] at he; done)
  | .str s, e, n, m, hd, he => by
    cases e with
    | str t =>
      show (toS s == toS t) = (s == t)
      exact beq_toS s t
    | _ => first | rfl | (exfalso; simp [isData] at he; done)
  | .tup xs, e, 0, m, hd, he => by simp [isData] at hd
  | .tup xs, e, n + 1, m, hd, he => by
    cases e with
    | tup ys =>
      cases m with
      | zero => simp [isData] at he
      | succ m => exact eqvs_py xs ys n m (by simpa [isData] using hd) (by simpa [isData] using he)
    | _ => first | rfl | (exfalso; simp [isData] at he; done)
  | .lst xs, e, 0, m, hd, he => by simp [isData] at hd
  | .lst xs, e, n + 1, m, hd, he => by
    cases e with
    | lst ys =>
      cases m with
      | zero => simp [isData] at he
      | succ m => exact eqvs_py xs ys n m (by simpa [isData] using hd) (by simpa [isData] using he)
    | _ => first | rfl | (exfalso; simp [isData] at he; done)
  | .ty _, e, n, m, hd, he => by simp [isData] at hd
  | .glb _, e, n, m, hd, he => by simp [isData] at hd
  | .scr _, e, n, m, hd, he => by simp [isData] at hd
  | .loc _, e, n, m, hd, he => by simp [isData] at hd
  | .dic _ _, e, n, m, hd, he => by simp [isData] at hd
  | .tab _ _, e, n, m, hd, he => by simp [isData] at hd
theorem eqvs_py : ∀ (ds es : List D) (n m : Nat), areData n ds = true → areData m es = true → PyData.eqvAll (toPys ds) (toPys es) = eqvL ds es
  | [], [], n, m, hd, he => rfl
  | [], e :: es, n, m, hd, he => rfl
  | d :: ds, [], n, m, hd, he => rfl
  | d :: ds, e :: es, n, m, hd, he => by
    obtain ⟨h1, h2⟩ := Bool.and_eq_true_iff.mp (show (isData n d && areData n ds) = true by simpa [areData] using hd)
    obtain ⟨h3, h4⟩ := Bool.and_eq_true_iff.mp (show (isData m e && areData m es) = true by simpa [areData] using he)
    show (PyData.eqv (toPy d) (toPy e) && PyData.eqvAll (toPys ds) (toPys es)) = (eqv d e && eqvL ds es)
    rw [eqv_py d e n m h1 h3, eqvs_py ds es n m h2 h4]
end
/-- a row of the heap as a value stands so -/
theorem deref_dp {c : Cz} (S : simH X c) {n : Nat} {d : D} {v : V} (h : isData n (deref d c.h) = true) (r : rep X c d v) : Dp X.K c.H v (toPy (deref d c.h)) ∧ (toPy (deref d c.h)).canLay0 = true ∧ (toPy (deref d c.h)).depth ≤ n := by
  cases d with
  | loc k =>
    cases e : c.h[k]? with
    | none =>
      have e2 : deref (.loc k) c.h = .loc k := by simp [deref, e]
      rw [e2] at h
      simp [isData] at h
    | some o =>
      cases o with
      | none =>
        have e2 : deref (.loc k) c.h = .loc k := by simp [deref, e]
        rw [e2] at h
        simp [isData] at h
      | some o =>
        cases o with
        | lst ds =>
          have e2 : deref (.loc k) c.h = .lst ds := by simp [deref, e]
          rw [e2] at h ⊢
          obtain ⟨a, ea, rfl, vs, q, rs, z⟩ := live_at S e r
          cases n with
          | zero => simp [isData] at h
          | succ n =>
            obtain ⟨h1, h2, h3⟩ := dps_of S n ds vs (by simpa [isData] using h) rs
            exact ⟨.lst (SqL.of q) h1, by show PyData.canLayAll0 _ = true; exact h2, by show PyData.depthAll _ + 1 ≤ n + 1; omega⟩
        | _ =>
          have e2 : deref (.loc k) c.h = .loc k := by simp [deref, e]
          rw [e2] at h
          simp [isData] at h
  | _ => exact dp_of S n _ v h r
theorem shaped_of {d : PyData} (h1 : d.canLay0 = true) (h2 : d.depth ≤ 60) : SeqAt.shaped d = true := by
  unfold SeqAt.shaped
  rw [h1]
  simp
  omega
theorem opD_eq : OpD (X := X) (W := W) (rEqD X.K) cEq := by
  intro c d e x y σ Q S rd re p
  have p2 : PostX X W (rep X) c σ Q (if (isData 60 (deref d c.h) && isData 60 (deref e c.h)) = true then .ok (.bl (eqv (deref d c.h) (deref e c.h))) c.h else .no) := p
  by_cases hz : (isData 60 (deref d c.h) && isData 60 (deref e c.h)) = true
  · rw [if_pos hz] at p2
    obtain ⟨h1, h2⟩ := Bool.and_eq_true_iff.mp hz
    obtain ⟨a1, a2, a3⟩ := deref_dp S h1 rd
    obtain ⟨b1, b2, b3⟩ := deref_dp S h2 re
    refine ⟨_, _, a1, b1, shaped_of a2 a3, shaped_of b2 b3, ?_⟩
    rw [eqv_py _ _ 60 60 h1 h2]
    exact Post.at S p2 (rep_bl.mpr rfl)
  · rw [if_neg hz] at p2
    exact False.elim p2
theorem opD_ne : OpD (X := X) (W := W) (rNeD X.K) cNe := by
  intro c d e x y σ Q S rd re p
  have p2 : PostX X W (rep X) c σ Q (if (isData 60 (deref d c.h) && isData 60 (deref e c.h)) = true then .ok (.bl (!eqv (deref d c.h) (deref e c.h))) c.h else .no) := p
  by_cases hz : (isData 60 (deref d c.h) && isData 60 (deref e c.h)) = true
  · rw [if_pos hz] at p2
    obtain ⟨h1, h2⟩ := Bool.and_eq_true_iff.mp hz
    obtain ⟨a1, a2, a3⟩ := deref_dp S h1 rd
    obtain ⟨b1, b2, b3⟩ := deref_dp S h2 re
    refine ⟨_, _, a1, b1, shaped_of a2 a3, shaped_of b2 b3, ?_⟩
    rw [eqv_py _ _ 60 60 h1 h2]
    exact Post.at S p2 (rep_bl.mpr rfl)
  · rw [if_neg hz] at p2
    exact False.elim p2
end
end Dn

/-! text DnE -/
set_option maxHeartbeats 1000000
set_option Elab.async false
set_option linter.all false
set_option maxRecDepth 100000
set_option autoImplicit false
/-! Dn, part E: order, in, subscripts, slices, truth. -/
namespace Dn
open PySem L2
section
variable {X : Cx} {W : WX}
theorem cps_toS (t : Tx) : (toS t).cps.toList = t := by
  show t.toArray.toList = t
  simp
abbrev rStr2 (g : Tx → Tx → Bool) : R2 := fun x y H Q => ∃ i j, x = .str i ∧ y = .str j ∧ Q (.bl (g i.cps.toList j.cps.toList)) H
theorem opD_ord {f : Int → Int → Bool} {g : Tx → Tx → Bool} {F : D → D → Hh → R D} (hi : ∀ i j h, F (.int i) (.int j) h = .ok (.bl (f i j)) h) (hs : ∀ s t h, F (.str s) (.str t) h = .ok (.bl (g s t)) h)
    (ho : ∀ d e h, (∀ i j, ¬ (d = .int i ∧ e = .int j)) → (∀ s t, ¬ (d = .str s ∧ e = .str t)) → F d e h = .no) :
    OpD (X := X) (W := W) (fun x y H Q => (rI0 fun i j => .bl (f i j)) x y H Q ∨ rStr2 g x y H Q) F := by
  intro c d e x y σ Q S rd re p
  by_cases h1 : ∃ i j, d = .int i ∧ e = .int j
  · obtain ⟨i, j, rfl, rfl⟩ := h1
    rw [hi] at p
    exact .inl ⟨i, j, rep_int.mp rd, rep_int.mp re, Post.at S p (rep_bl.mpr rfl)⟩
  · by_cases h2 : ∃ s t, d = .str s ∧ e = .str t
    · obtain ⟨s, t, rfl, rfl⟩ := h2
      rw [hs] at p
      refine .inr ⟨_, _, (rep_str.mp rd).1, (rep_str.mp re).1, ?_⟩
      rw [cps_toS, cps_toS]
      exact Post.at S p (rep_bl.mpr rfl)
    · rw [ho d e c.h (fun i j q => h1 ⟨i, j, q⟩) (fun s t q => h2 ⟨s, t, q⟩)] at p
      exact False.elim p
theorem cLt_no (d e : D) (h : Hh) (h1 : ∀ i j, ¬ (d = .int i ∧ e = .int j)) (h2 : ∀ s t, ¬ (d = .str s ∧ e = .str t)) : cLt d e h = .no := by
  unfold cLt
  split
  · exact absurd ⟨rfl, rfl⟩ (h1 _ _)
  · exact absurd ⟨rfl, rfl⟩ (h2 _ _)
  · rfl
theorem cLe_no (d e : D) (h : Hh) (h1 : ∀ i j, ¬ (d = .int i ∧ e = .int j)) (h2 : ∀ s t, ¬ (d = .str s ∧ e = .str t)) : cLe d e h = .no := by
  unfold cLe
  split
  · exact absurd ⟨rfl, rfl⟩ (h1 _ _)
  · exact absurd ⟨rfl, rfl⟩ (h2 _ _)
  · rfl
theorem opD_lt : OpD (X := X) (W := W) (fun x y H Q => (rI0 fun i j => .bl (decide (i < j))) x y H Q ∨ rStr2 (fun s t => decide (s < t)) x y H Q) cLt := opD_ord (fun _ _ _ => rfl) (fun _ _ _ => rfl) cLt_no
theorem opD_le : OpD (X := X) (W := W) (fun x y H Q => (rI0 fun i j => .bl (decide (i ≤ j))) x y H Q ∨ rStr2 (fun s t => !decide (t < s)) x y H Q) cLe := opD_ord (fun _ _ _ => rfl) (fun _ _ _ => rfl) cLe_no
theorem opD_gt : OpD (X := X) (W := W) (fun x y H Q => (rI0 fun i j => .bl (decide (j < i))) x y H Q ∨ rStr2 (fun s t => decide (t < s)) x y H Q) cGt :=
  opD_ord (fun _ _ _ => rfl) (fun _ _ _ => rfl) fun d e h h1 h2 => cLt_no e d h (fun i j q => h1 j i ⟨q.2, q.1⟩) (fun i j q => h2 j i ⟨q.2, q.1⟩)
theorem opD_ge : OpD (X := X) (W := W) (fun x y H Q => (rI0 fun i j => .bl (decide (j ≤ i))) x y H Q ∨ rStr2 (fun s t => !decide (s < t)) x y H Q) cGe :=
  opD_ord (fun _ _ _ => rfl) (fun _ _ _ => rfl) fun d e h h1 h2 => cLe_no e d h (fun i j q => h1 j i ⟨q.2, q.1⟩) (fun i j q => h2 j i ⟨q.2, q.1⟩)
theorem op_ltA : OpR X (compareOp .Lt) (fun x y H Q => (rI0 fun i j => .bl (decide (i < j))) x y H Q ∨ rStr2 (fun s t => decide (s < t)) x y H Q) := op_lt.or op_lt_str
theorem op_leA : OpR X (compareOp .LtE) (fun x y H Q => (rI0 fun i j => .bl (decide (i ≤ j))) x y H Q ∨ rStr2 (fun s t => !decide (t < s)) x y H Q) := op_le.or op_le_str
theorem op_gtA : OpR X (compareOp .Gt) (fun x y H Q => (rI0 fun i j => .bl (decide (j < i))) x y H Q ∨ rStr2 (fun s t => decide (t < s)) x y H Q) := op_gt.or op_gt_str
theorem op_geA : OpR X (compareOp .GtE) (fun x y H Q => (rI0 fun i j => .bl (decide (j ≤ i))) x y H Q ∨ rStr2 (fun s t => !decide (s < t)) x y H Q) := op_ge.or op_ge_str

/-! ### dicts by keys -/
theorem valV_vget (k : Ky) : ∀ (ks : List Ky) (vs : List V), valV ((ks.map kyK).zip vs) (kyK k) = vget k ks vs
  | [], vs => by simp [valV, vget]
  | q :: ks, [] => by simp [valV, vget]
  | q :: ks, v :: vs => by
    have ih := valV_vget k ks vs
    by_cases e : q = k
    · subst e
      simp [vget, valV]
    · rw [show ((q :: ks).map kyK).zip (v :: vs) = (kyK q, v) :: (ks.map kyK).zip vs from rfl, valV_neg (p := (kyK q, v)) (fun z => e (kyK_inj.mp z)), ih]
      simp [vget, e]
theorem dget_vget {c : Cz} (k : Ky) : ∀ {ks : List Ky} {ds : List D} {vs : List V}, repL X c ds vs → (dget k ks ds = none → vget k ks vs = none) ∧ ∀ d, dget k ks ds = some d → ∃ v, vget k ks vs = some v ∧ rep X c d v
  | [], ds, vs, r => by
    constructor
    · intro _; simp [vget]
    · intro d e; simp [dget] at e
  | q :: ks, [], vs, r => by
    rw [RepL.of_nil r]
    constructor
    · intro _; simp [vget]
    · intro d e; simp [dget] at e
  | q :: ks, x :: ds, vs, r => by
    obtain ⟨v, us, rfl, r1, r2⟩ := RepL.of_cons r
    by_cases e : q = k
    · subst e
      constructor
      · intro h; simp [dget] at h
      · intro d h
        simp [dget] at h
        subst h
        exact ⟨v, by simp [vget], r1⟩
    · have ih := dget_vget (c := c) k (ks := ks) r2
      simpa [dget, vget, e] using ih
theorem keyD_rep {c : Cz} {y : D} {k : Ky} {u : V} (h : keyD y = some k) (r : rep X c y u) : u = kV (kyK k) := by
  cases y <;> simp [keyD] at h
  · subst h
    exact rep_int.mp r
  · subst h
    exact (rep_str.mp r).1
/-- in a dict that stands in the heap -/
def rInDk : R2 := fun x y H Q => ∃ a o, y = .ref a ∧ DGet H a x o ∧ Q (.bl o.isSome) H
theorem op_inDk (hu : X.A.units + 1 < cLine) : OpR X (compareOp .In) rInDk := by
  intro pins s σ H x y v u Q I rx ry h
  obtain ⟨a, o, rfl, g, q⟩ := h
  cases ry
  exact d_in hu I g rx fun s3 I3 => ⟨.bl o.isSome, H, I3, rfl, q⟩
def rInKd (K : PySem.W.Frag) (w : World) : R2 := fun x y H Q => ∃ d es n, KDict K w d es n ∧ ∃ (z : Str) (r : Option Value), x = .str z ∧ y = .ref d ∧ PySem.W.nsIn K d z = some r ∧ Q (.bl r.isSome) H
theorem op_inKd : OpR X (compareOp .In) (rInKd X.K X.w) := by
  intro pins s σ H x y v u Q I rx ry h
  obtain ⟨d, es, n, D, h⟩ := h
  exact op_in_kd D pins s σ H x y v u Q I rx ry h
def rInAll (K : PySem.W.Frag) (w : World) : R2 := fun x y H Q => (∃ (c : Nat) (z : Str), x = .str ⟨#[c]⟩ ∧ y = .str z ∧ Q (.bl (decide (c ∈ z.cps.toList))) H) ∨ (rIn K false x y H Q ∨ (rInD K x y H Q ∨ (rInDk x y H Q ∨ rInKd K w x y H Q)))
theorem op_inAll (hu : X.A.units + 65 < cLine) : OpR X (compareOp .In) (rInAll X.K X.w) := op_in_sign.or (op_in_seq.or ((op_inD hu).or ((op_inDk (by omega)).or op_inKd)))
theorem flat_of {c : Cz} {d : D} {v : V} (h : flatD d = true) (r : rep X c d v) : flatV v = true := by
  cases d <;> simp [flatD] at h
  · rw [rep_non.mp r]; rfl
  · rw [rep_bl.mp r]; rfl
  · rw [rep_int.mp r]; rfl
  · rw [(rep_str.mp r).1]; rfl
def toV : D → V
  | .bl b => .bl b
  | .int i => .int i
  | .str t => .str (toS t)
  | _ => .non
theorem flat_val {c : Cz} {d : D} {v : V} (h : flatD d = true) (r : rep X c d v) : v = toV d := by
  cases d <;> simp [flatD] at h
  · exact rep_non.mp r
  · exact rep_bl.mp r
  · exact rep_int.mp r
  · exact (rep_str.mp r).1
theorem eqV_of {c : Cz} {d e : D} {v u : V} (hd : flatD d = true) (he : flatD e = true) (rd : rep X c d v) (re : rep X c e u) : eqV v u = eqv d e := by
  rw [flat_val hd rd, flat_val he re]
  cases d <;> simp [flatD] at hd <;> cases e <;> simp [flatD] at he <;> first | rfl | exact beq_toS _ _
theorem inV_of {c : Cz} {d : D} {u : V} (hd : flatD d = true) (rd : rep X c d u) : ∀ {ds : List D} {vs : List V}, ds.all flatD = true → repL X c ds vs → vs.all flatV = true ∧ inV u vs = ds.any fun e => eqv e d
  | [], vs, _, r => by
    rw [RepL.of_nil r]
    exact ⟨rfl, rfl⟩
  | e :: ds, vs, h, r => by
    obtain ⟨v, us, rfl, r1, r2⟩ := RepL.of_cons r
    obtain ⟨h1, h2⟩ := Bool.and_eq_true_iff.mp (show (flatD e && ds.all flatD) = true from h)
    obtain ⟨a1, a2⟩ := inV_of hd rd h2 r2
    refine ⟨by show (flatV v && us.all flatV) = true; rw [flat_of h1 r1, a1]; rfl, ?_⟩
    show (eqV v u || inV u us) = (eqv e d || ds.any fun e => eqv e d)
    rw [a2, eqV_of h1 hd r1 rd]
theorem toPys_any {n : Nat} {d : D} (hd : isData n d = true) : ∀ {m : Nat} {ds : List D}, areData m ds = true → (toPys ds).any (fun z => PyData.eqv z (toPy d)) = ds.any fun e => eqv e d
  | m, [], _ => rfl
  | m, e :: ds, h => by
    obtain ⟨h1, h2⟩ := Bool.and_eq_true_iff.mp (show (isData m e && areData m ds) = true by simpa [areData] using h)
    show (PyData.eqv (toPy e) (toPy d) || (toPys ds).any fun z => PyData.eqv z (toPy d)) = (eqv e d || ds.any fun e => eqv e d)
    rw [eqv_py e d m n h1 hd, toPys_any hd h2]
theorem in_list {c : Cz} (S : simH X c) {d : D} {x : V} {a : Addr} {ds : List D} {vs : List V} {Q : VK} (hd : isData 50 d = true) (hds : areData 50 ds = true) (rd : rep X c d x) (q : c.H a = some (.lst vs)) (rs : repL X c ds vs)
    (h : Q (.bl (ds.any fun e => eqv e d)) c.H) : rInD X.K x (.ref a) c.H Q := by
  obtain ⟨a1, a2, a3⟩ := dp_of S 50 d x hd rd
  obtain ⟨b1, b2, b3⟩ := dps_of S 50 ds vs hds rs
  refine ⟨toPy d, toPys ds, a1, .lst (SqL.of q) b1, shaped_of a2 (by omega), shaped_of (by show PyData.canLayAll0 _ = true; exact b2) (by show PyData.depthAll _ + 1 ≤ 60; omega), ?_⟩
  rw [toPys_any hd hds]
  exact h
theorem opD_in : OpD (X := X) (W := W) (rInAll X.K X.w) cIn := by
  intro c d e x y σ Q S rd re p
  cases e <;> first | exact False.elim p | skip
  case str t =>
    cases d <;> first | exact False.elim p | skip
    case str s =>
      cases s with
      | nil => exact False.elim p
      | cons q r =>
        cases r with
        | cons _ _ => exact False.elim p
        | nil =>
          refine .inl ⟨q, toS t, (rep_str.mp rd).1, (rep_str.mp re).1, ?_⟩
          rw [cps_toS]
          exact Post.at S (show PostX X W (rep X) c σ Q (.ok (.bl (decide (q ∈ t))) c.h) from p) (rep_bl.mpr rfl)
  case loc n =>
    cases hn : c.h[n]? with
    | none =>
      simp only [cIn, hn] at p
      exact False.elim p
    | some o =>
      cases o with
      | none =>
        simp only [cIn, hn] at p
        exact False.elim p
      | some o =>
        cases o with
        | lst ds =>
          simp only [cIn, hn] at p
          obtain ⟨a, ea, rfl, vs, q, rs, z⟩ := live_at S hn re
          by_cases hz : (isData 50 d && areData 50 ds) = true
          · rw [if_pos hz] at p
            obtain ⟨h1, h2⟩ := Bool.and_eq_true_iff.mp hz
            exact .inr (.inr (.inl (in_list S h1 h2 rd q rs (Post.at S p (rep_bl.mpr rfl)))))
          · rw [if_neg hz] at p
            exact False.elim p
        | dic ks ds =>
          simp only [cIn, hn] at p
          obtain ⟨a, ea, rfl, vs, q, l, rs⟩ := live_at S hn re
          cases hk : keyD d with
          | none =>
            rw [hk] at p
            exact False.elim p
          | some k =>
            rw [hk] at p
            refine .inr (.inr (.inr (.inl ⟨a, _, rfl, by rw [keyD_rep hk rd]; exact DGet.k q, ?_⟩)))
            rw [valV_vget]
            obtain ⟨g1, g2⟩ := dget_vget (X := X) (c := c) k (ks := ks) rs
            have e : (vget k ks vs).isSome = (dget k ks ds).isSome := by
              cases z : dget k ks ds with
              | none => rw [g1 z]; rfl
              | some d' =>
                obtain ⟨v, ev, _⟩ := g2 d' z
                rw [ev]
                rfl
            rw [e]
            exact Post.at S p (rep_bl.mpr rfl)
        | ins _ _ _ =>
          simp only [cIn, hn] at p
          exact False.elim p
  case tup ds =>
    obtain ⟨a, vs, rfl, q, rs, z⟩ := rep_tup.mp re
    have p2 : PostX X W (rep X) c σ Q (if (flatD d && ds.all flatD) = true then .ok (.bl (ds.any fun e => eqv e d)) c.h else .no) := p
    by_cases hz : (flatD d && ds.all flatD) = true
    · rw [if_pos hz] at p2
      obtain ⟨h1, h2⟩ := Bool.and_eq_true_iff.mp hz
      obtain ⟨a1, a2⟩ := inV_of (X := X) h1 rd h2 rs
      refine .inr (.inl ⟨a, vs, rfl, .inr q, flat_of h1 rd, a1, ?_⟩)
      rw [if_neg (by decide), a2]
      exact Post.at S p2 (rep_bl.mpr rfl)
    · rw [if_neg hz] at p2
      exact False.elim p2
  case lst ds =>
    obtain ⟨a, vs, rfl, q, f, rs, z⟩ := rep_lst.mp re
    have p2 : PostX X W (rep X) c σ Q (if (isData 50 d && areData 50 ds) = true then .ok (.bl (ds.any fun e => eqv e d)) c.h else .no) := p
    by_cases hz : (isData 50 d && areData 50 ds) = true
    · rw [if_pos hz] at p2
      obtain ⟨h1, h2⟩ := Bool.and_eq_true_iff.mp hz
      exact .inr (.inr (.inl (in_list S h1 h2 rd q rs (Post.at S p2 (rep_bl.mpr rfl)))))
    · rw [if_neg hz] at p2
      exact False.elim p2
  case dic ks ds =>
    have re2 : Rep X.K X.w X.mg c (.dic ks ds) y := re
    unfold Rep at re2
    obtain ⟨a, vs, rfl, l, rs, q, _⟩ := re2
    cases hk : keyD d with
    | none =>
      simp only [cIn, hk] at p
      exact False.elim p
    | some k =>
      simp only [cIn, hk] at p
      obtain ⟨g1, g2⟩ := dget_vget (X := X) (c := c) k (ks := ks) rs
      have e : (vget k ks vs).isSome = (dget k ks ds).isSome := by
        cases z : dget k ks ds with
        | none => rw [g1 z]; rfl
        | some d' =>
          obtain ⟨v, ev, _⟩ := g2 d' z
          rw [ev]
          rfl
      refine .inr (.inr (.inr (.inl ⟨a, _, rfl, by rw [keyD_rep hk rd]; exact DGet.k q, ?_⟩)))
      rw [valV_vget, e]
      exact Post.at S p (rep_bl.mpr rfl)
  case tab ks ds =>
    have re2 : Rep X.K X.w X.mg c (.tab ks ds) y := re
    unfold Rep at re2
    obtain ⟨a, vs, rfl, l, rs, ⟨es, n, kd⟩, look⟩ := re2
    cases d <;> first | exact False.elim p | skip
    case str t =>
      simp only [cIn] at p
      obtain ⟨g1, g2⟩ := dget_vget (X := X) (c := c) (.s t) (ks := ks) rs
      have e : (vget (.s t) ks vs).isSome = (dget (.s t) ks ds).isSome := by
        cases z : dget (.s t) ks ds with
        | none => rw [g1 z]; rfl
        | some d' =>
          obtain ⟨v, ev, _⟩ := g2 d' z
          rw [ev]
          rfl
      refine .inr (.inr (.inr (.inr ⟨a, es, n, kd, toS t, ?_⟩)))
      cases z : vget (.s t) ks vs with
      | none =>
        refine ⟨none, (rep_str.mp rd).1, rfl, (look t).1 z, ?_⟩
        rw [z] at e
        rw [show (none : Option Value).isSome = (dget (.s t) ks ds).isSome from e]
        exact Post.at S p (rep_bl.mpr rfl)
      | some v =>
        obtain ⟨u, eu, _⟩ := (look t).2 v z
        refine ⟨some u, (rep_str.mp rd).1, rfl, eu, ?_⟩
        rw [z] at e
        rw [show (some u : Option Value).isSome = (dget (.s t) ks ds).isSome from e]
        exact Post.at S p (rep_bl.mpr rfl)
end
end Dn

/-! text DnF -/
set_option maxHeartbeats 1000000
set_option Elab.async false
set_option linter.all false
set_option maxRecDepth 100000
set_option autoImplicit false
/-! Dn, part F: subscripts, slices, truth, displays, tests, attributes. -/
namespace Dn
open PySem L2
section
variable {X : Cx} {W : WX}
/-! ### d[k] -/
def rGetDk : R2 := fun x y H Q => ∃ a v, x = .ref a ∧ DGet H a y (some v) ∧ Q v H
theorem ix_dk (hu : X.A.units + 1 < cLine) : IxR X rGetDk := by
  intro value slice pins s σ H x y v u Q I rx ry h hs
  obtain ⟨a, z, rfl, g, q⟩ := h
  cases rx
  exact PyProof.Rows.tail_any (dict_typeIs I g) PySem.F.slot_dict_getitem.lookup (d_getItem hu I g ry fun w' s3 I3 rw' => ⟨z, H, I3, rw', q⟩) hs
def rGetKd (K : PySem.W.Frag) (w : World) : R2 := fun x y H Q => ∃ d es n, KDict K w d es n ∧ ∃ (z : Str) (u0 : Value) (v0 : V), x = .ref d ∧ y = .str z ∧ PySem.W.nsIn K d z = some (some u0) ∧ RelV v0 u0 ∧ Q v0 H
theorem ix_kd : IxR X (rGetKd X.K X.w) := by
  intro value slice pins s σ H x y v u Q I rx ry h hs
  obtain ⟨d, es, n, D, h⟩ := h
  obtain ⟨z, u0, v0, rfl, h2⟩ := id h
  have rx2 : v = Value.ref d := rx
  subst rx2
  exact PyProof.Rows.tail_any (kd_type D I) PySem.F.slot_dict_getitem.lookup (op_item_kd D pins s σ H (.ref d) y (.ref d) u Q I rfl ry h) hs
def rItemAll (K : PySem.W.Frag) (w : World) : R2 := fun x y H Q => rIx K x y H Q ∨ (rGetDk x y H Q ∨ rGetKd K w x y H Q)
theorem ix_all (hu : X.A.units + 1 < cLine) : IxR X (rItemAll X.K X.w) := ix_seq.or ((ix_dk hu).or ix_kd)
theorem atI_rep {c : Cz} {ds : List D} {vs : List V} {i : Int} {d : D} (r : repL X c ds vs) (h : atIx ds i = some d) : ∃ v, atI vs i = some v ∧ rep X c d v := by
  unfold atIx at h
  obtain ⟨j, e1, e2⟩ := Option.bind_eq_some_iff.mp h
  obtain ⟨v, e3, r2⟩ := RepL.get r e2
  refine ⟨v, ?_, r2⟩
  unfold atI
  have e4 : L2.ixN vs.length i = some j := by
    rw [← repL_len r]
    exact e1
  rw [e4]
  exact e3
theorem opD_item : OpD (X := X) (W := W) (rItemAll X.K X.w) opItem := by
  intro c d e x y σ Q S rd re p
  cases d <;> first | exact False.elim p | skip
  case str t =>
    cases e <;> first | exact False.elim p | skip
    case int i =>
      obtain ⟨e1, z1, c1⟩ := rep_str.mp rd
      cases h : atIx t i with
      | none =>
        simp only [opItem, h] at p
        exact False.elim p
      | some q =>
        simp only [opItem, h] at p
        have hq : q ∈ t := by
          unfold atIx at h
          obtain ⟨j, _, e3⟩ := Option.bind_eq_some_iff.mp h
          exact List.mem_of_getElem? e3
        refine .inl (.inr (.inr ⟨toS t, i, q, e1, rep_int.mp re, by rw [toS_length, ← big_eq]; exact z1, ?_, Post.at S p (rep_str.mpr ⟨rfl, by show 1 ≤ big; decide, fun k hk => ?_⟩)⟩))
        · rw [cps_toS]
          exact h
        · simp at hk
          subst hk
          exact c1 _ hq
  case tup ds =>
    cases e <;> first | exact False.elim p | skip
    case int i =>
      obtain ⟨a, vs, rfl, q, rs, z⟩ := rep_tup.mp rd
      cases h : atIx ds i with
      | none =>
        simp only [opItem, h] at p
        exact False.elim p
      | some d' =>
        simp only [opItem, h] at p
        obtain ⟨v, ev, rv⟩ := atI_rep rs h
        exact .inl (.inr (.inl ⟨a, vs, i, v, rfl, rep_int.mp re, q, ev, Post.at S p rv⟩))
  case lst ds =>
    cases e <;> first | exact False.elim p | skip
    case int i =>
      obtain ⟨a, vs, rfl, q, _, rs, z⟩ := rep_lst.mp rd
      cases h : atIx ds i with
      | none =>
        simp only [opItem, h] at p
        exact False.elim p
      | some d' =>
        simp only [opItem, h] at p
        obtain ⟨v, ev, rv⟩ := atI_rep rs h
        exact .inl (.inl ⟨a, vs, i, v, rfl, rep_int.mp re, SqL.of q, ev, Post.at S p rv⟩)
  case dic ks ds =>
    have rd2 : Rep X.K X.w X.mg c (.dic ks ds) x := rd
    unfold Rep at rd2
    obtain ⟨a, vs, rfl, l, rs, q, _⟩ := rd2
    cases hk : keyD e with
    | none =>
      simp only [opItem, hk] at p
      exact False.elim p
    | some k =>
      cases hg : dget k ks ds with
      | none =>
        simp only [opItem, hk, hg] at p
        exact False.elim p
      | some d' =>
        simp only [opItem, hk, hg] at p
        obtain ⟨v, ev, rv⟩ := (dget_vget (X := X) (c := c) k (ks := ks) rs).2 d' hg
        refine .inr (.inl ⟨a, v, rfl, ?_, Post.at S p rv⟩)
        rw [keyD_rep hk re, ← ev, ← valV_vget]
        exact DGet.k q
  case tab ks ds =>
    have rd2 : Rep X.K X.w X.mg c (.tab ks ds) x := rd
    unfold Rep at rd2
    obtain ⟨a, vs, rfl, l, rs, ⟨es, n, kd⟩, look⟩ := rd2
    cases e <;> first | exact False.elim p | skip
    case str t =>
      cases hg : dget (.s t) ks ds with
      | none =>
        simp only [opItem, hg] at p
        exact False.elim p
      | some d' =>
        simp only [opItem, hg] at p
        obtain ⟨v, ev, rv⟩ := (dget_vget (X := X) (c := c) (.s t) (ks := ks) rs).2 d' hg
        obtain ⟨u, eu, ru⟩ := (look t).2 v ev
        exact .inr (.inr ⟨a, es, n, kd, toS t, u, v, rfl, (rep_str.mp re).1, eu, ru, Post.at S p rv⟩)
  case loc n =>
    cases hn : c.h[n]? with
    | none =>
      simp only [opItem, hn] at p
      exact False.elim p
    | some o =>
      cases o with
      | none =>
        simp only [opItem, hn] at p
        exact False.elim p
      | some o =>
        cases o with
        | lst ds =>
          obtain ⟨a, ea, rfl, vs, q, rs, z⟩ := live_at S hn rd
          cases e <;> simp only [opItem, hn] at p <;> first | exact False.elim p | skip
          case int i =>
            cases h : atIx ds i with
            | none =>
              simp only [h] at p
              exact False.elim p
            | some d' =>
              simp only [h] at p
              obtain ⟨v, ev, rv⟩ := atI_rep rs h
              exact .inl (.inl ⟨a, vs, i, v, rfl, rep_int.mp re, SqL.of q, ev, Post.at S p rv⟩)
        | dic ks ds =>
          obtain ⟨a, ea, rfl, vs, q, l, rs⟩ := live_at S hn rd
          cases hk : keyD e with
          | none =>
            simp only [opItem, hn, hk] at p
            exact False.elim p
          | some k =>
            cases hg : dget k ks ds with
            | none =>
              simp only [opItem, hn, hk, hg] at p
              exact False.elim p
            | some d' =>
              simp only [opItem, hn, hk, hg] at p
              obtain ⟨v, ev, rv⟩ := (dget_vget (X := X) (c := c) k (ks := ks) rs).2 d' hg
              refine .inr (.inl ⟨a, v, rfl, ?_, Post.at S p rv⟩)
              rw [keyD_rep hk re, ← ev, ← valV_vget]
              exact DGet.k q
        | ins _ _ _ =>
          simp only [opItem, hn] at p
          exact False.elim p
theorem den_item {a b : Expr} {fa fb : DE} {pos : Pos} (hu : X.A.units + 65 < cLine) (ha : Den X W a fa) (hb : Den X W b fb) (hs : PlainIx b) : Den X W (.Subscript a b pos) (e2 opItem fa fb) :=
  PE.weak (pe_ix (ix_all (by omega)) ha hb hs) (tOp_of opD_item)

/-! ### slices -/
theorem deno_none : DenO X W none oNone := by
  refine PO.weak po_none fun σ H Q t => ?_
  obtain ⟨ms, env, h, S, SE, p⟩ := t
  exact Post.at (c := ⟨ms, h, H⟩) S p rfl
theorem deno_some {e : Expr} {f : DE} (h : Den X W e f) : DenO X W (some e) (oSome f) := by
  refine PO.weak (po_some h) fun σ H Q t => ?_
  refine tG.bind t fun env d h1 ms1 H1 x S1 SE1 r p => ?_
  cases d <;> first | exact False.elim p | skip
  case int i => exact ⟨i, rep_int.mp r, Post.at (c := ⟨ms1, h1, H1⟩) S1 p rfl⟩
theorem slc_map {α β : Type} (f : α → β) (xs : List α) (lo hi : Option Int) : slc (xs.map f) lo hi = (slc xs lo hi).map f := by
  unfold slc
  rw [List.length_map, List.map_take, List.map_drop]
theorem slc_len {α : Type} (xs : List α) (lo hi : Option Int) : (slc xs lo hi).length ≤ xs.length := by
  unfold slc
  rw [List.length_take, List.length_drop]
  omega
theorem cutV_slc (xs : List V) (lo hi : Option Int) : cutV xs lo hi = slc xs lo hi := rfl
theorem repL_slc {c : Cz} {ds : List D} {vs : List V} (r : repL X c ds vs) (lo hi : Option Int) : repL X c (slc ds lo hi) (slc vs lo hi) := by
  have e := repL_len r
  unfold slc
  rw [e]
  exact RepL.take _ (RepL.drop _ r)
theorem slc_mem {t : Tx} {lo hi : Option Int} {q : Nat} (h : q ∈ slc t lo hi) : q ∈ t := by
  unfold slc at h
  exact List.mem_of_mem_drop (List.mem_of_mem_take h)
theorem cutS_slc (t : Tx) (lo hi : Option Int) : cutS (toS t) lo hi = toS (slc t lo hi) := by
  unfold cutS
  rw [cps_toS, toS_length] <;> rfl
theorem slc_whole {α : Type} (xs : List α) (lo hi : Option Int) (h : HT.sIx xs.length 0 lo = 0 ∧ HT.sIx xs.length xs.length hi = xs.length) : slc xs lo hi = xs := by
  have h1 : clampI xs.length 0 lo = 0 := h.1
  have h2 : clampI xs.length xs.length hi = xs.length := h.2
  unfold slc
  rw [h1, h2]
  simp
def rSlAll (K : PySem.W.Frag) : V → Option Int → Option Int → Hp → VK → Prop := fun x lo hi H Q => rSlL K x lo hi H Q ∨ (rSlS x lo hi H Q ∨ rSlA K x lo hi H Q)
theorem sl_all : SlR X (rSlAll X.K) := sl_list.or (sl_str.or sl_tupA)
theorem opD_slice {c : Cz} {d : D} {x : V} {lo hi : Option Int} {σ : St} {Q : VK} (S : simH X c) (rd : rep X c d x) (p : PostX X W (rep X) c σ Q (opSlice lo hi d c.h)) : rSlAll X.K x lo hi c.H Q := by
  cases d <;> first | exact False.elim p | skip
  case str t =>
    obtain ⟨e1, z1, c1⟩ := rep_str.mp rd
    refine .inr (.inl ⟨toS t, e1, by rw [toS_length, ← big_eq]; exact z1, ?_⟩)
    rw [cutS_slc]
    exact Post.at S (show PostX X W (rep X) c σ Q (.ok (.str (slc t lo hi)) c.h) from p) (rep_str.mpr ⟨rfl, Nat.le_trans (slc_len _ _ _) z1, fun q hq => c1 q (slc_mem hq)⟩)
  case scr ns =>
    have rd2 : Rep X.K X.w X.mg c (.scr ns) x := rd
    unfold Rep at rd2
    obtain ⟨a, rfl, hl, q⟩ := rd2
    have sq : SqL X.K c.H a (ns.map V.int) := by
      rcases q with ⟨q, _⟩ | q
      · exact .inl q
      · exact q c.H
    refine .inl ⟨a, _, rfl, sq, fun p' hp => ?_⟩
    have p2 : PostX X W (rep X) c σ Q (.ok (.lst ((slc ns lo hi).map D.int)) c.h) := p
    refine Post.new S p2 hp ?_
    rw [cutV_slc, slc_map]
    exact new_lst S hp (RepL.ints _) (by rw [List.length_map]; exact Nat.le_trans (slc_len _ _ _) hl)
  case tup ds =>
    obtain ⟨a, vs, rfl, q, rs, z⟩ := rep_tup.mp rd
    have p2 : PostX X W (rep X) c σ Q (.ok (.tup (slc ds lo hi)) c.h) := p
    refine .inr (.inr ⟨a, vs, rfl, q, fun hw => ?_, fun hw p' hp => ?_⟩)
    · have e : slc ds lo hi = ds := slc_whole ds lo hi (by rw [repL_len rs]; exact hw)
      rw [e] at p2
      exact Post.at S p2 rd
    · exact Post.new S p2 hp (new_tup S hp (repL_slc rs lo hi) (Nat.le_trans (slc_len _ _ _) z))
  case lst ds =>
    obtain ⟨a, vs, rfl, q, _, rs, z⟩ := rep_lst.mp rd
    have p2 : PostX X W (rep X) c σ Q (.ok (.lst (slc ds lo hi)) c.h) := p
    exact .inl ⟨a, vs, rfl, SqL.of q, fun p' hp => Post.new S p2 hp (new_lst S hp (repL_slc rs lo hi) (Nat.le_trans (slc_len _ _ _) z))⟩
  case loc n =>
    cases hn : c.h[n]? with
    | none =>
      simp only [opSlice, hn] at p
      exact False.elim p
    | some o =>
      cases o with
      | none =>
        simp only [opSlice, hn] at p
        exact False.elim p
      | some o =>
        cases o <;> simp only [opSlice, hn] at p <;> first | exact False.elim p | skip
        case lst ds =>
          obtain ⟨a, ea, rfl, vs, q, rs, z⟩ := live_at S hn rd
          exact .inl ⟨a, vs, rfl, SqL.of q, fun p' hp => Post.new S p hp (new_lst S hp (repL_slc rs lo hi) (Nat.le_trans (slc_len _ _ _) z))⟩
theorem den_slice {a : Expr} {lo hi : Option Expr} {fa : DE} {fl fh : DO} {p2 pos : Pos} (ha : Den X W a fa) (hl : DenO X W lo fl) (hh : DenO X W hi fh) : Den X W (.Subscript a (.Slice lo hi none p2) pos) (eSlice fa fl fh) := by
  refine PE.weak (pe_slice sl_all ha hl hh) fun σ H Q t => ?_
  refine tG.bind t fun env d h1 ms1 H1 x S1 SE1 r1 p1 => ?_
  refine tG.of (c := ⟨ms1, h1, H1⟩) S1 SE1 (Post.bind S1 p1 fun i h2 ms2 H2 i' E2 S2 r2 p2 => ?_)
  have SE2 := SE1.ext S1 E2
  refine tG.of (c := ⟨ms2, h2, H2⟩) S2 SE2 (Post.bind S2 p2 fun j h3 ms3 H3 j' E3 S3 r3 p3 => ?_)
  have r2' : i = i' := r2
  have r3' : j = j' := r3
  subst r2' r3'
  exact opD_slice (c := ⟨ms3, h3, H3⟩) S3 (Rep.ext S2 E3 _ _ (Rep.ext S1 E2 _ _ r1)) p3

/-! ### truth, tests -/
theorem isEmpty_rep {c : Cz} {ds : List D} {vs : List V} (r : repL X c ds vs) : (!vs.isEmpty) = !ds.isEmpty := by
  cases ds with
  | nil => rw [RepL.of_nil r]; rfl
  | cons d ds =>
    obtain ⟨v, us, rfl, _, _⟩ := RepL.of_cons r
    rfl
theorem zip_empty {ks : List Ky} {vs : List V} (l : ks.length = vs.length) : (!((ks.map kyK).zip vs).isEmpty) = !ks.isEmpty := by
  cases ks with
  | nil => rfl
  | cons k ks =>
    cases vs with
    | nil => simp at l
    | cons v vs => rfl
theorem truV_of {c : Cz} (S : simH X c) {d : D} {x : V} {b : Bool} (r : rep X c d x) (h : truth d c.h = some b) : TruV X.K x c.H b := by
  cases d <;> simp only [truth] at h <;> first | (cases h; done) | skip
  case non =>
    rw [rep_non.mp r]
    exact (Option.some.inj h).symm
  case bl =>
    rw [rep_bl.mp r]
    exact (Option.some.inj h).symm
  case int =>
    rw [rep_int.mp r]
    exact (Option.some.inj h).symm
  case str t =>
    obtain ⟨e, z, _⟩ := rep_str.mp r
    rw [e]
    refine ⟨by rw [toS_length, ← big_eq]; exact z, ?_⟩
    rw [toS_length, ← Option.some.inj h]
    cases t with
    | nil => rfl
    | cons _ _ =>
      simp
      omega
  case tup ds =>
    obtain ⟨a, vs, rfl, q, rs, z⟩ := rep_tup.mp r
    exact .inr (.inl ⟨vs, q, by rw [isEmpty_rep rs]; exact (Option.some.inj h).symm⟩)
  case lst ds =>
    obtain ⟨a, vs, rfl, q, _, rs, z⟩ := rep_lst.mp r
    exact .inl ⟨vs, SqL.of q, by rw [isEmpty_rep rs]; exact (Option.some.inj h).symm⟩
  case dic ks ds =>
    have r2 : Rep X.K X.w X.mg c (.dic ks ds) x := r
    unfold Rep at r2
    obtain ⟨a, vs, rfl, l, rs, q, _⟩ := r2
    exact .inr (.inr ⟨_, q, by rw [zip_empty l]; exact (Option.some.inj h).symm⟩)
  case loc n =>
    cases hn : c.h[n]? with
    | none =>
      simp only [hn] at h
      cases h
    | some o =>
      cases o with
      | none =>
        simp only [hn] at h
        cases h
      | some o =>
        cases o <;> simp only [hn] at h
        case lst ds =>
          obtain ⟨a, ea, rfl, vs, q, rs, z⟩ := live_at S hn r
          exact .inl ⟨vs, SqL.of q, by rw [isEmpty_rep rs]; exact (Option.some.inj h).symm⟩
        case dic ks ds =>
          obtain ⟨a, ea, rfl, vs, q, l, rs⟩ := live_at S hn r
          exact .inr (.inr ⟨_, q, by rw [zip_empty l]; exact (Option.some.inj h).symm⟩)
        case ins _ _ _ => cases h
theorem dent_e {a : Expr} {fa : DE} (ha : Den X W a fa) (he : ∀ whole, isTrue a X.env whole = (do let v ← whole; standAt a.pos; holding [v] (truthy v)) := by intro _; rfl) : DenT X W a (tE fa) := by
  refine PT.weak (pt_truth ha he) fun σ H Q t => ?_
  refine tG.bind t fun env d h1 ms1 H1 x S1 SE1 r p => ?_
  cases h : truth d h1 with
  | none =>
    simp only [h] at p
    exact False.elim p
  | some b =>
    simp only [h] at p
    exact ⟨b, truV_of (c := ⟨ms1, h1, H1⟩) S1 r h, Post.at (c := ⟨ms1, h1, H1⟩) S1 p rfl⟩
theorem dent_not {a : Expr} {t : DT} {pos : Pos} (h : DenT X W a t) : DenT X W (.UnaryOp .Not a pos) (Dn.tNot t) := by
  refine PT.weak (pt_not h) fun σ H Q t => ?_
  refine tG.bind t fun env d h1 ms1 H1 x S1 SE1 r p => ?_
  have r' : d = x := r
  subst r'
  exact Post.at (c := ⟨ms1, h1, H1⟩) S1 p rfl
theorem denw_and1 {a : Expr} {t : DT} {pos : Pos} (h : DenT X W a t) : DenW X W (.BoolOp .And [a] pos) t := pw_and1 h
theorem denw_or1 {a : Expr} {t : DT} {pos : Pos} (h : DenT X W a t) : DenW X W (.BoolOp .Or [a] pos) t := pw_or1 h
theorem denw_and {a b : Expr} {r : List Expr} {t u : DT} {pos : Pos} (h : DenT X W a t) (h2 : DenW X W (.BoolOp .And (b :: r) pos) u) : DenW X W (.BoolOp .And (a :: b :: r) pos) (Dn.tAnd t u) := by
  refine PW.weak (pw_and h h2) fun σ H Q t => ?_
  refine tG.bind t fun env d h1 ms1 H1 x S1 SE1 r p => ?_
  have r' : d = x := r
  subst r'
  cases d with
  | true => exact tG.of (c := ⟨ms1, h1, H1⟩) S1 SE1 p
  | false => exact Post.at (c := ⟨ms1, h1, H1⟩) S1 p rfl
theorem denw_or {a b : Expr} {r : List Expr} {t u : DT} {pos : Pos} (h : DenT X W a t) (h2 : DenW X W (.BoolOp .Or (b :: r) pos) u) : DenW X W (.BoolOp .Or (a :: b :: r) pos) (Dn.tOr t u) := by
  refine PW.weak (pw_or h h2) fun σ H Q t => ?_
  refine tG.bind t fun env d h1 ms1 H1 x S1 SE1 r p => ?_
  have r' : d = x := r
  subst r'
  cases d with
  | true => exact Post.at (c := ⟨ms1, h1, H1⟩) S1 p rfl
  | false => exact tG.of (c := ⟨ms1, h1, H1⟩) S1 SE1 p
theorem dent_w {a : Expr} {t : DT} (h : DenW X W a t) : DenT X W a t := PW.pt h

/-! ### values by truth -/
theorem den_one {op : BoolOp} {a : Expr} {f : DE} {pos : Pos} (h : Den X W a f) : Den X W (.BoolOp op [a] pos) f := pe_one h
theorem den_and {a b : Expr} {r : List Expr} {fa fb : DE} {pos : Pos} (ha : Den X W a fa) (hb : Den X W (.BoolOp .And (b :: r) pos) fb) : Den X W (.BoolOp .And (a :: b :: r) pos) (eAnd fa fb) := by
  refine PE.weak (pe_andT ha hb) fun σ H Q t => ?_
  refine tG.bind t fun env d h1 ms1 H1 x S1 SE1 r p => ?_
  cases h : truth d h1 with
  | none =>
    simp only [h] at p
    exact False.elim p
  | some b =>
    simp only [h] at p
    refine ⟨b, truV_of (c := ⟨ms1, h1, H1⟩) S1 r h, ?_⟩
    cases b with
    | true =>
      rw [if_pos rfl]
      exact tG.of (c := ⟨ms1, h1, H1⟩) S1 SE1 p
    | false =>
      rw [if_neg (by decide)]
      exact Post.at (c := ⟨ms1, h1, H1⟩) S1 p r
theorem den_or {a b : Expr} {r : List Expr} {fa fb : DE} {pos : Pos} (ha : Den X W a fa) (hb : Den X W (.BoolOp .Or (b :: r) pos) fb) : Den X W (.BoolOp .Or (a :: b :: r) pos) (eOr fa fb) := by
  refine PE.weak (pe_orT ha hb) fun σ H Q t => ?_
  refine tG.bind t fun env d h1 ms1 H1 x S1 SE1 r p => ?_
  cases h : truth d h1 with
  | none =>
    simp only [h] at p
    exact False.elim p
  | some b =>
    simp only [h] at p
    refine ⟨b, truV_of (c := ⟨ms1, h1, H1⟩) S1 r h, ?_⟩
    cases b with
    | true =>
      rw [if_pos rfl]
      exact Post.at (c := ⟨ms1, h1, H1⟩) S1 p r
    | false =>
      rw [if_neg (by decide)]
      exact tG.of (c := ⟨ms1, h1, H1⟩) S1 SE1 p
theorem den_not {a : Expr} {fa : DE} {pos : Pos} (ha : Den X W a fa) : Den X W (.UnaryOp .Not a pos) (eNot fa) := by
  refine PE.weak (pe_notT ha) fun σ H Q t => ?_
  refine tG.bind t fun env d h1 ms1 H1 x S1 SE1 r p => ?_
  cases h : truth d h1 with
  | none =>
    simp only [h] at p
    exact False.elim p
  | some b =>
    simp only [h] at p
    exact ⟨b, truV_of (c := ⟨ms1, h1, H1⟩) S1 r h, Post.at (c := ⟨ms1, h1, H1⟩) S1 p (rep_bl.mpr rfl)⟩
theorem den_if {c a b : Expr} {t : DT} {fa fb : DE} {pos : Pos} (hc : DenT X W c t) (ha : Den X W a fa) (hb : Den X W b fb) : Den X W (.IfExp c a b pos) (eIf t fa fb) := by
  refine PE.weak (pe_ifExp hc ha hb) fun σ H Q t => ?_
  refine tG.bind t fun env d h1 ms1 H1 x S1 SE1 r p => ?_
  have r' : d = x := r
  subst r'
  cases d with
  | true => exact tG.of (c := ⟨ms1, h1, H1⟩) S1 SE1 p
  | false => exact tG.of (c := ⟨ms1, h1, H1⟩) S1 SE1 p
theorem den_neg {a : Expr} {fa : DE} {pos : Pos} (ha : Den X W a fa) : Den X W (.UnaryOp .USub a pos) (e1 opNeg fa) := by
  refine PE.weak (pe_un un_neg ha) fun σ H Q t => ?_
  refine tG.bind t fun env d h1 ms1 H1 x S1 SE1 r p => ?_
  cases d <;> first | exact False.elim p | skip
  case int i => exact ⟨i, rep_int.mp r, Post.at (c := ⟨ms1, h1, H1⟩) S1 (show PostX X W (rep X) ⟨ms1, h1, H1⟩ σ Q (.ok (.int (-i)) h1) from p) (rep_int.mpr rfl)⟩
theorem tChain_of {r r' : R2} {f f' : D → D → Hh → R D} {fa fb fd : DE} (hf : OpD (X := X) (W := W) r f) (hf' : OpD (X := X) (W := W) r' f') (σ : St) (H : Hp) (Q : VK) (t : tG X W (rep X) (eChain f f' fa fb fd) σ H Q) :
    tChain r r' (tG X W (rep X) fa) (tG X W (rep X) fb) (tG X W (rep X) fd) σ H Q := by
  refine tG.bind t fun env x h1 ms1 H1 x' S1 SE1 r1 p1 => ?_
  refine tG.of (c := ⟨ms1, h1, H1⟩) S1 SE1 (Post.bind S1 p1 fun y h2 ms2 H2 y' E2 S2 r2 p2 => ?_)
  have SE2 := SE1.ext S1 E2
  refine hf ⟨ms2, h2, H2⟩ x y x' y' σ _ S2 (Rep.ext S1 E2 _ _ r1) r2 (Post.bind S2 p2 fun z h3 ms3 H3 z' E3 S3 r3 p3 => ?_)
  cases z <;> first | exact False.elim p3 | skip
  case bl k =>
    refine ⟨k, rep_bl.mp r3, ?_⟩
    have SE3 := SE2.ext S2 E3
    cases k with
    | false =>
      rw [if_neg (by decide)]
      exact Post.at (c := ⟨ms3, h3, H3⟩) S3 p3 (rep_bl.mpr rfl)
    | true =>
      rw [if_pos rfl]
      exact tG.of (c := ⟨ms3, h3, H3⟩) S3 SE3 (Post.bind S3 p3 fun u h4 ms4 H4 u' E4 S4 r4 p4 => hf' ⟨ms4, h4, H4⟩ y u y' u' σ Q S4 (Rep.ext S3 E4 _ _ (Rep.ext S2 E3 _ _ r2)) r4 p4)
theorem den_chain {op op' : CmpOp} {r r' : R2} {f f' : D → D → Hh → R D} {a b d : Expr} {fa fb fd : DE} {pos : Pos} (ho : OpR X (compareOp op) r) (hf : OpD (X := X) (W := W) r f) (ho' : OpR X (compareOp op') r') (hf' : OpD (X := X) (W := W) r' f')
    (ha : Den X W a fa) (hb : Den X W b fb) (hd : Den X W d fd) (hm : lastMarks [op, op'] [b, d] = false := by rfl) : Den X W (.Compare a [op, op'] [b, d] pos) (eChain f f' fa fb fd) := by
  exact PE.weak (pe_chain ho ho' ha hb hd (by exact hm)) fun σ H Q t => tChain_of hf hf' σ H Q t

/-! ### displays, arguments -/
theorem dena_nil : DenA X W [] aNil := by
  refine PA.weak pa_nil fun σ H Q t => ?_
  obtain ⟨ms, env, h, S, SE, p⟩ := t
  exact Post.at (c := ⟨ms, h, H⟩) S p RepL.nil
theorem dena_cons {e : Expr} {es : List Expr} {f : DE} {fs : DA} (h : Den X W e f) (r : DenA X W es fs) (hs : starEach (e :: es) X.env = (false, eval e X.env) :: starEach es X.env := by rfl) : DenA X W (e :: es) (aCons f fs) := by
  refine PA.weak (pa_cons h r hs) fun σ H Q t => ?_
  refine tG.bind t fun env d h1 ms1 H1 x S1 SE1 r1 p1 => ?_
  refine tG.of (c := ⟨ms1, h1, H1⟩) S1 SE1 (Post.bind S1 p1 fun ds h2 ms2 H2 xs E2 S2 r2 p2 => ?_)
  exact Post.at (c := ⟨ms2, h2, H2⟩) S2 p2 (RepL.cons (Rep.ext S1 E2 _ _ r1) r2)
theorem den_tup {es : List Expr} {fs : DA} {k : Nat} {pos : Pos} (h : DenA X W es fs) : Den X W (.Tuple es k pos) (eTup fs) := by
  refine PE.weak (pe_tup h) fun σ H Q t => ?_
  refine tG.bind t fun env ds h1 ms1 H1 xs S1 SE1 r p => ?_
  by_cases hz : ds.length ≤ big
  · rw [if_pos hz] at p
    exact ⟨by rw [← repL_len r, ← big_eq]; exact hz, fun q hq => Post.new (c := ⟨ms1, h1, H1⟩) S1 p hq (new_tup (c := ⟨ms1, h1, H1⟩) S1 hq r hz)⟩
  · rw [if_neg hz] at p
    exact False.elim p
theorem den_lst {es : List Expr} {fs : DA} {pos : Pos} (h : DenA X W es fs) : Den X W (.List es pos) (eLst fs) := by
  refine PE.weak (pe_lst h) fun σ H Q t => ?_
  refine tG.bind t fun env ds h1 ms1 H1 xs S1 SE1 r p => ?_
  by_cases hz : ds.length ≤ big
  · rw [if_pos hz] at p
    exact ⟨by rw [← repL_len r, ← big_eq]; exact hz, fun q hq => Post.new (c := ⟨ms1, h1, H1⟩) S1 p hq (new_lst (c := ⟨ms1, h1, H1⟩) S1 hq r hz)⟩
  · rw [if_neg hz] at p
    exact False.elim p
/-- a written list that will be changed -/
theorem den_lstBox {es : List Expr} {fs : DA} {pos : Pos} (h : DenA X W es fs) : Den X W (.List es pos) (eBox (eLst fs)) := by
  refine PE.weak (pe_lst h) fun σ H Q t => ?_
  unfold eBox eLst at t
  simp only [R.bind_assoc] at t
  refine tG.bind t fun env ds h1 ms1 H1 xs S1 SE1 r p => ?_
  by_cases hz : ds.length ≤ big
  · rw [if_pos hz] at p
    refine ⟨by rw [← repL_len r, ← big_eq]; exact hz, fun q hq => ?_⟩
    have E := Ext.new_ (oo := some (O.lst ds)) (u := .lst xs) S1 hq
    refine p (ms1 ++ [q]) (upd H1 q (.lst xs)) (.ref q) E (SimH.new_ S1 hq ⟨xs, upd_same, RepL.ext S1 E _ _ r, hz⟩) (rep_loc.mpr ⟨q, ?_, rfl⟩)
    have L : ms1.length = h1.length := S1.len
    show (ms1 ++ [q])[h1.length]? = some q
    rw [← L, List.getElem?_append_right (Nat.le_refl _)]
    simp
  · rw [if_neg hz] at p
    exact False.elim p
end
end Dn

/-! text DnG -/
set_option maxHeartbeats 1000000
set_option Elab.async false
set_option linter.all false
set_option maxRecDepth 100000
set_option autoImplicit false
/-! Dn, part G: attributes, calls of defs, methods, new instances; a def by its body; no repr runs around. -/
namespace Dn
open PySem L2
section
variable {X : Cx} {W : WX}
/-! ### fields -/
theorem fget_zip {c : Cz} (f : String) : ∀ {fs : List String} {ds : List D} {vs : List V}, repL X c ds vs → (fget f fs ds = none → ((fs.map Str.ofString).zip vs).lookup (Str.ofString f) = none) ∧ ∀ d, fget f fs ds = some d → ∃ v, ((fs.map Str.ofString).zip vs).lookup (Str.ofString f) = some v ∧ rep X c d v
  | [], ds, vs, r => by
    constructor
    · intro _; simp
    · intro d e; simp [fget] at e
  | g :: fs, [], vs, r => by
    rw [RepL.of_nil r]
    constructor
    · intro _; simp
    · intro d e; simp [fget] at e
  | g :: fs, x :: ds, vs, r => by
    obtain ⟨v, us, rfl, r1, r2⟩ := RepL.of_cons r
    by_cases e : g = f
    · subst e
      constructor
      · intro h; simp [fget] at h
      · intro d h
        simp [fget] at h
        subst h
        exact ⟨v, by simp [List.lookup], r1⟩
    · have ih := fget_zip (c := c) f (fs := fs) r2
      have e2 : (Str.ofString f == Str.ofString g) = false := beq_eq_false_iff_ne.mpr fun z => e (ofS_inj.mp z).symm
      simpa [fget, List.lookup, e, e2] using ih
theorem fput_zip (f : String) (y : V) (d : D) : ∀ (fs : List String) (ds : List D) (vs : List V), fs.length = ds.length → ds.length = vs.length → ∃ us, putF (Str.ofString f) y ((fs.map Str.ofString).zip vs) = ((fput f d fs ds).1.map Str.ofString).zip us ∧ (fput f d fs ds).1.length = us.length ∧
      ∀ {c : Cz}, repL X c ds vs → rep X c d y → repL X c (fput f d fs ds).2 us
  | [], [], [], _, _ => ⟨[y], by simp [fput, putF], by simp [fput], fun _ r => by simpa [fput] using RepL.cons r RepL.nil⟩
  | [], _ :: _, _, h, _ => by simp at h
  | _ :: _, [], _, h, _ => by simp at h
  | _, [], _ :: _, _, h => by simp at h
  | _, _ :: _, [], _, h => by simp at h
  | g :: fs, x :: ds, v :: vs, h1, h2 => by
    by_cases e : g = f
    · subst e
      refine ⟨y :: vs, by simp [fput, putF], ?_, fun r r2 => ?_⟩
      · simp [fput]
        simp at h1 h2
        omega
      · obtain ⟨_, _, q, _, r4⟩ := RepL.of_cons r
        cases q
        simpa [fput] using RepL.cons r2 r4
    · obtain ⟨us, e1, e2, e3⟩ := fput_zip f y d fs ds vs (by simpa using h1) (by simpa using h2)
      have e4 : ¬ Str.ofString g = Str.ofString f := fun z => e (ofS_inj.mp z)
      refine ⟨v :: us, ?_, ?_, fun r r2 => ?_⟩
      · show putF (Str.ofString f) y ((Str.ofString g, v) :: (fs.map Str.ofString).zip vs) = _
        rw [putF, if_neg e4, e1]
        simp [fput, e]
      · simp [fput, e]
        omega
      · obtain ⟨_, _, q, r3, r4⟩ := RepL.of_cons r
        cases q
        simpa [fput, e] using RepL.cons r3 (e3 r4 r2)
/-- an own class of the module, whose instances have this field -/
def ClsF (K : PySem.W.Frag) (mg : Str → Option Value) (C f : String) : Prop := ∀ a, mg (Str.ofString C) = some (.ref a) → Cls K a ∧ NoAttr K a (Str.ofString f)
theorem den_fld {a : Expr} {fa : DE} {C f : String} {x : Str} {pos : Pos} (ef : x = Str.ofString f) (hc : ClsF X.K X.mg C f) (ha : Den X W a fa) (hb : attributeBase a x X.env (eval a X.env) = eval a X.env := by rfl) : Den X W (.Attribute a x pos) (eFld C f fa) := by
  subst ef
  refine PE.weak (pe_fld ha hb) fun σ H Q t => ?_
  refine tG.bind t fun env d h1 ms1 H1 v S1 SE1 r p => ?_
  cases d <;> first | exact False.elim p | skip
  case loc n =>
    cases hn : h1[n]? with
    | none =>
      simp only [hn] at p
      exact False.elim p
    | some o =>
      cases o with
      | none =>
        simp only [hn] at p
        exact False.elim p
      | some o =>
        cases o <;> simp only [hn] at p <;> first | exact False.elim p | skip
        case ins C' fs ds =>
          by_cases e : C' = C
          · subst e
            rw [if_pos rfl] at p
            obtain ⟨a, ea, rfl, Ca, dx, vs, q1, q2, l, rs⟩ := live_at (c := ⟨ms1, h1, H1⟩) S1 hn r
            cases g : fget f fs ds with
            | none =>
              rw [g] at p
              exact False.elim p
            | some d =>
              rw [g] at p
              obtain ⟨v, ev, rv⟩ := (fget_zip (X := X) (c := ⟨ms1, h1, H1⟩) f rs).2 d g
              exact ⟨a, Ca, dx, _, v, rfl, q2, (hc Ca q1).1, (hc Ca q1).2, ev, Post.at (c := ⟨ms1, h1, H1⟩) S1 p rv⟩
          · rw [if_neg e] at p
            exact False.elim p

/-! ### what a def does -/
/-- what is wanted of an exception, whatever the slots -/
abbrev WE (E : XK) : WX := fun cls d _ H => E cls d H
structure FnDen (P : Program) (w : World) (K : PySem.W.Frag) (mg : Str → Option Value) (base : Heap) (k : Nat) (f : Addr) (fd : FuncData) (ps : List Str) (F : Fn) : Prop where
  run : ∀ (A : Around) (outer : List PySem.Env) (s : Shared) (H : Hp) (args : Args) (us : List Value) (vs : List V) (ds : List D) (ms : List Addr) (h : Hh) (Q : VK) (E : XK), Room k A → A.guards = some [] → Env0 P w K mg base A outer s H →
    BindsTo s fd args (ps.zip us) → Vals vs us → vs.length = ps.length → SimH K w mg ⟨ms, h, H⟩ → RepL K w mg ⟨ms, h, H⟩ ds vs → Post K w mg (Rep K w mg) (WE E) ⟨ms, h, H⟩ [] Q (F ds h) →
    codeAny (model P w) A (.call (.ref f) args) (CR (L2.CX P w) outer P w H s Q E) s
section
variable {P : Program} {w : World} {K : PySem.W.Frag} {mg : Str → Option Value} {base : Heap} {k : Nat} {f : Addr} {fd : FuncData} {ps : List Str} {F F' : Fn}
theorem FnDen.mono {j : Nat} (dn : FnDen P w K mg base j f fd ps F) (h : j ≤ k) : FnDen P w K mg base k f fd ps F := ⟨fun A outer s H args us vs ds ms h1 Q E hr => dn.run A outer s H args us vs ds ms h1 Q E (hr.mono h)⟩
/-- less is said -/
theorem FnDen.imp (dn : FnDen P w K mg base k f fd ps F) (h : ∀ ds h, F' ds h = .no ∨ F' ds h = F ds h) : FnDen P w K mg base k f fd ps F' := ⟨fun A outer s H args us vs ds ms h1 Q E hr hg e0 hb r hl S rl p => by
  rcases h ds h1 with q | q
  · rw [q] at p
    exact False.elim p
  · rw [q] at p
    exact dn.run A outer s H args us vs ds ms h1 Q E hr hg e0 hb r hl S rl p⟩
end
/-- the callee runs -/
theorem run_den {pins : List (Addr × Obj)} {σ : St} {s : Shared} {Q : VK} {us dsv : List Value} {vs dvs : List V} {ds dd : List D} {c : Cz} {k : Nat} {f : Addr} {fd : FuncData} {ps : List Str} {F : Fn} (B : FnDen X.prog X.w X.K X.mg X.base k f fd ps F) (hr : Room k X.A) (hG : X.A.guards = some [])
    (hb : Binds X.K fd ps dsv) (hd : Vals dvs dsv) (hdd : ∀ c, repL X c dd dvs) (tk : Takes X W) (I : Inv X pins σ c.H s) (r : Vals vs us) (S : simH X c) (rl : repL X c ds vs) (hl : ds.length + dd.length = ps.length)
    (p : PostX X W (rep X) c σ Q (F (ds ++ dd) c.h)) : wpAny (model X.prog X.w) X.A (call (.ref f) us) (EP X pins σ Q) X.xe s := by
  have l1 := repL_len rl
  have l2 := repL_len (hdd c)
  have r2 : Vals (vs ++ dvs) (us ++ dsv) := r.append hd
  have hlen : (vs ++ dvs).length = ps.length := by
    rw [List.length_append]
    omega
  have p2 : Post X.K X.w X.mg (Rep X.K X.w X.mg) (WE fun cls d H => W cls d σ H) c [] Q (F (ds ++ dd) c.h) := by
    cases e : F (ds ++ dd) c.h with
    | ok d h =>
      rw [e] at p
      exact p
    | exc x h =>
      rw [e] at p
      exact p
    | no =>
      rw [e] at p
      exact p
  have go := B.run X.A X.stack s c.H ⟨us, []⟩ (us ++ dsv) (vs ++ dvs) (ds ++ dd) c.ms c.h Q (fun cls d H => W cls d σ H) hr hG I.env0 (hb s us I.kIn (by rw [← r2.length]; exact hlen)) r2 hlen S (RepL.append rl (hdd c)) p2
  refine wpAny_call (codeAny_mono go fun res s' q => ?_)
  match res, q with
  | .error e, q => exact tk e s' (XE.of_call I (fun cls d H' z => z) q)
  | .ok (.ret u), q => exact I.after q
  | .ok .next, q => exact False.elim q
  | .ok .brk, q => exact False.elim q
  | .ok .cont, q => exact False.elim q
/-- what a call of a name of the module needs -/
structure CallF (X : Cx) (x : Str) (k n : Nat) (F : Fn) (dd : List D) : Prop where
  ex : ∃ (f : Addr) (fd : FuncData) (ps : List Str) (dsv : List Value) (dvs : List V), FnDen X.prog X.w X.K X.mg X.base k f fd ps F ∧ X.mg x = some (.ref f) ∧ PySem.W.keepIn X.K (.ref f) = true ∧ Binds X.K fd ps dsv ∧ Vals dvs dsv ∧ (∀ c, repL X c dd dvs) ∧ ps.length = n
theorem den_call {x : Str} {p pos : Pos} {e : Expr} {es : List Expr} {fs : DA} {k n : Nat} {F : Fn} {dd : List D} (B : CallF X x k n F dd) (hr : Room k X.A) (hG : X.A.guards = some []) (tk : Takes X W) (hg : Gl X x) (ha : DenA X W (e :: es) fs)
    (hdb : (x == ("__debug__" : Str)) = false := by decide) (he : starEach (e :: es) X.env = (false, eval e X.env) :: starEach es X.env := by rfl) (hpl : (backTo pos (starEach es X.env)).any (·.1) = false := by rfl) :
    Den X W (.Call (.Name x p) (e :: es) [] pos) (eCall n F dd fs) := by
  obtain ⟨f, fd, ps, dsv, dvs, dn, hm, hk, hb, hd, hdd, hn⟩ := B.ex
  refine ⟨fun pins s σ H Q I t => ?_⟩
  refine wpAny_Call_Name_kw (ld_glob I hg hm ?_ hdb)
  refine PySem.W.callWith_K (h₀ := X.base) I.ok.mod.kin hk ?_ he hpl
  refine thn (ha.run pos pins s σ H (fun vs H1 => ∃ (ds : List Dn.D) (h : Hh) (ms : List Addr), simH X ⟨ms, h, H1⟩ ∧ repL X ⟨ms, h, H1⟩ ds vs ∧ PostX X W (rep X) ⟨ms, h, H1⟩ σ Q (if ds.length + dd.length = n then F (ds ++ dd) h else .no)) I
    (tG.bind t fun env ds h1 ms1 H1 vs S1 SE1 r p => ⟨ds, h1, ms1, S1, r, p⟩)) fun us s1 ⟨vs, H1, I1, r1, ds, h1, ms1, S1, rl, q⟩ => ⟨I1.kIn, ?_⟩
  by_cases hz : ds.length + dd.length = n
  · rw [if_pos hz] at q
    exact run_den (c := ⟨ms1, h1, H1⟩) dn hr hG hb hd hdd tk I1 r1 S1 rl (by rw [hn]; exact hz) q
  · rw [if_neg hz] at q
    exact False.elim q
theorem den_call0 {x : Str} {p pos : Pos} {k n : Nat} {F : Fn} {dd : List D} (B : CallF X x k n F dd) (hr : Room k X.A) (hG : X.A.guards = some []) (tk : Takes X W) (hg : Gl X x) (hdb : (x == ("__debug__" : Str)) = false := by decide) :
    Den X W (.Call (.Name x p) [] [] pos) (eCall n F dd aNil) := by
  obtain ⟨f, fd, ps, dsv, dvs, dn, hm, hk, hb, hd, hdd, hn⟩ := B.ex
  refine ⟨fun pins s σ H Q I t => ?_⟩
  obtain ⟨ms, env, h, S, SE, q⟩ := t
  have q2 : PostX X W (rep X) ⟨ms, h, H⟩ σ Q (if ([] : List D).length + dd.length = n then F ([] ++ dd) h else .no) := q
  by_cases hz : ([] : List D).length + dd.length = n
  · rw [if_pos hz] at q2
    refine wpAny_Call_Name_kw (ld_glob I hg hm ?_ hdb)
    exact PySem.W.callWith_K0 I.kIn hk (run_den (c := ⟨ms, h, H⟩) (us := []) (vs := []) (ds := []) dn hr hG hb hd hdd tk I .nil S RepL.nil (by rw [hn]; exact hz) q2)
  · rw [if_neg hz] at q2
    exact False.elim q2
/-- what a call of a method of an own class needs -/
structure CallM (X : Cx) (C m : String) (k n : Nat) (F : Fn) (dd : List D) : Prop where
  ex : ∃ (Ca f : Addr) (fd : FuncData) (ps : List Str) (dsv : List Value) (dvs : List V), FnDen X.prog X.w X.K X.mg X.base k f fd ps F ∧ X.mg (Str.ofString C) = some (.ref Ca) ∧ Cls X.K Ca ∧ Meth X.K Ca (Str.ofString m) f ∧ Binds X.K fd ps dsv ∧ Vals dvs dsv ∧ (∀ c, repL X c dd dvs) ∧ ps.length = n
/-- the receiver's looks -/
theorem recv_of {C m : String} {c : Cz} {x : D} {v : V} {g : R D} {σ : St} {Q : VK} (S : simH X c) (r : rep X c x v) (p : PostX X W (rep X) c σ Q (onIns C m x c.h g)) :
    ∃ (a Ca dx : Addr) (fs : List (Str × V)), v = .ref a ∧ X.mg (Str.ofString C) = some (.ref Ca) ∧ c.H a = some (.ins Ca dx fs) ∧ fs.lookup (Str.ofString m) = none ∧ PostX X W (rep X) c σ Q g := by
  cases x <;> first | exact False.elim p | skip
  case loc j =>
    cases hn : c.h[j]? with
    | none =>
      simp only [onIns, hn] at p
      exact False.elim p
    | some o =>
      cases o with
      | none =>
        simp only [onIns, hn] at p
        exact False.elim p
      | some o =>
        cases o <;> simp only [onIns, hn] at p <;> first | exact False.elim p | skip
        case ins C' fs ds =>
          by_cases e : C' = C ∧ fget m fs ds = none
          · rw [if_pos e] at p
            obtain ⟨e1, e2⟩ := e
            subst e1
            obtain ⟨a, ea, rfl, Ca, dx, vs, q1, q2, l, rs⟩ := live_at S hn r
            exact ⟨a, Ca, dx, _, rfl, q1, q2, (fget_zip (X := X) m rs).1 e2, p⟩
          · rw [if_neg e] at p
            exact False.elim p
theorem den_meth {o : Expr} {fo : DE} {C m : String} {mm : Str} {apos pos : Pos} {e : Expr} {es : List Expr} {fs : DA} {k n : Nat} {F : Fn} {dd : List D} {pl : Sem Bool} (em : mm = Str.ofString m) (B : CallM X C m k n F dd) (hr : Room k X.A) (hG : X.A.guards = some []) (tk : Takes X W) (ho : Den X W o fo) (ha : DenA X W (e :: es) fs)
    (hst : starEach (e :: es) X.env = (false, eval e X.env) :: starEach es X.env := by rfl) (hpl : (backTo pos (starEach es X.env)).any (·.1) = false := by rfl)
    (ht : eval (.Call (.Attribute o mm apos) (e :: es) [] pos) X.env = (do
      let ov ← eval o X.env
      standAt apos.atName
      let (f, first) ← holding [ov] (getMethod ov mm pl)
      callWith pos f first (backTo pos (starEach (e :: es) X.env)) (backToKw pos (keywordEach [] X.env))) := by rfl) :
    Den X W (.Call (.Attribute o mm apos) (e :: es) [] pos) (eMeth C m n F dd fo fs) := by
  subst em
  obtain ⟨Ca, f, fd, ps, dsv, dvs, dn, hC, hc, hm, hb, hd, hdd, hn⟩ := B.ex
  refine ⟨fun pins s σ H Q I t => ?_⟩
  refine PySem.W.methodCall_KW (pl := pl) (thn (ho.run pins s σ H (fun v H1 => ∃ (x : Dn.D) (env : Dn.Env) (h : Hh) (ms : List Addr), simH X ⟨ms, h, H1⟩ ∧ simE X ⟨ms, h, H1⟩ env σ ∧ rep X ⟨ms, h, H1⟩ x v ∧ PostX X W (rep X) ⟨ms, h, H1⟩ σ Q (onIns C m x h ((fs env h).bind fun xs h => if xs.length + dd.length + 1 = n then F (x :: (xs ++ dd)) h else .no))) I (tG.bind t fun env x h1 ms1 H1 v S1 SE1 r p => ⟨x, env, h1, ms1, S1, SE1, r, p⟩)) fun u s1 ⟨v, H1, I1, rx, x, env, h1, ms1, S1, SE1, r, p⟩ => ?_) ht
  obtain ⟨a, Ca2, dx, fs1, rfl, e1, e2, e3, p1⟩ := recv_of (c := ⟨ms1, h1, H1⟩) S1 r p
  rw [hC] at e1
  cases e1
  obtain rfl : u = Value.ref a := rx
  refine getmeth_ok I1 e2 hc hm e3 ?_
  refine PySem.W.callWith_K (first := [.ref a]) (h₀ := X.base) I.ok.mod.kin hm.kp ?_ hst hpl
  refine thn (ha.run pos pins s1 σ H1 (fun vs H2 => ∃ (ds : List Dn.D) (h : Hh) (ms : List Addr), simH X ⟨ms, h, H2⟩ ∧ rep X ⟨ms, h, H2⟩ x (.ref a) ∧ repL X ⟨ms, h, H2⟩ ds vs ∧ PostX X W (rep X) ⟨ms, h, H2⟩ σ Q (if ds.length + dd.length + 1 = n then F (x :: (ds ++ dd)) h else .no)) I1
    (tG.of (c := ⟨ms1, h1, H1⟩) S1 SE1 (Post.bind S1 p1 fun ds h2 ms2 H2 vs E2 S2 r2 p2 => ⟨ds, h2, ms2, S2, Rep.ext S1 E2 _ _ r, r2, p2⟩))) fun us s2 ⟨vs, H2, I2, r2, ds, h2, ms2, S2, rx2, rl, q⟩ => ⟨I2.kIn, ?_⟩
  by_cases hz : ds.length + dd.length + 1 = n
  · rw [if_pos hz] at q
    exact run_den (c := ⟨ms2, h2, H2⟩) (us := .ref a :: us) (vs := .ref a :: vs) (ds := x :: ds) dn hr hG hb hd hdd tk I2 (.cons rfl r2) S2 (RepL.cons rx2 rl) (by rw [hn, ← hz, List.length_cons]; omega) q
  · rw [if_neg hz] at q
    exact False.elim q
theorem den_meth0 {o : Expr} {fo : DE} {C m : String} {mm : Str} {apos pos : Pos} {k n : Nat} {F : Fn} {dd : List D} {pl : Sem Bool} (em : mm = Str.ofString m) (B : CallM X C m k n F dd) (hr : Room k X.A) (hG : X.A.guards = some []) (tk : Takes X W) (ho : Den X W o fo)
    (ht : eval (.Call (.Attribute o mm apos) [] [] pos) X.env = (do
      let ov ← eval o X.env
      standAt apos.atName
      let (f, first) ← holding [ov] (getMethod ov mm pl)
      callWith pos f first (backTo pos (starEach [] X.env)) (backToKw pos (keywordEach [] X.env))) := by rfl) :
    Den X W (.Call (.Attribute o mm apos) [] [] pos) (eMeth C m n F dd fo aNil) := by
  subst em
  obtain ⟨Ca, f, fd, ps, dsv, dvs, dn, hC, hc, hm, hb, hd, hdd, hn⟩ := B.ex
  refine ⟨fun pins s σ H Q I t => ?_⟩
  refine PySem.W.methodCall_KW (pl := pl) (thn (ho.run pins s σ H (fun v H1 => ∃ (x : Dn.D) (h : Hh) (ms : List Addr), simH X ⟨ms, h, H1⟩ ∧ rep X ⟨ms, h, H1⟩ x v ∧ PostX X W (rep X) ⟨ms, h, H1⟩ σ Q (onIns C m x h (if ([] : List Dn.D).length + dd.length + 1 = n then F (x :: ([] ++ dd)) h else .no))) I (tG.bind t fun env x h1 ms1 H1 v S1 SE1 r p => ⟨x, h1, ms1, S1, r, p⟩)) fun u s1 ⟨v, H1, I1, rx, x, h1, ms1, S1, r, p⟩ => ?_) ht
  obtain ⟨a, Ca2, dx, fs1, rfl, e1, e2, e3, p1⟩ := recv_of (c := ⟨ms1, h1, H1⟩) S1 r p
  rw [hC] at e1
  cases e1
  obtain rfl : u = Value.ref a := rx
  refine getmeth_ok I1 e2 hc hm e3 ?_
  by_cases hz : ([] : List Dn.D).length + dd.length + 1 = n
  · rw [if_pos hz] at p1
    exact PySem.W.callWith_K0 (first := [.ref a]) I1.kIn hm.kp (run_den (c := ⟨ms1, h1, H1⟩) (us := [.ref a]) (vs := [.ref a]) (ds := [x]) dn hr hG hb hd hdd tk I1 (.cons rfl .nil) S1 (RepL.cons r RepL.nil) (by rw [hn, ← hz]; simp; omega) p1)
  · rw [if_neg hz] at p1
    exact False.elim p1
end
end Dn

/-! text DnH -/
set_option maxHeartbeats 1000000
set_option Elab.async false
set_option linter.all false
set_option maxRecDepth 100000
set_option autoImplicit false
/-! Dn, part H: statements, targets, loops. -/
namespace Dn
open PySem L2
section
variable (X : Cx) (W : WX)
/-- what is wanted of a statement's end -/
def PostS (c : Cz) (T : Ends) : RS → Prop
  | .nx env' h' => ∀ (ms' : List Addr) (H' : Hp) (σ' : St), Ext c ⟨ms', h', H'⟩ → simH X ⟨ms', h', H'⟩ → simE X ⟨ms', h', H'⟩ env' σ' → T.nx σ' H'
  | .bk env' h' => ∀ (ms' : List Addr) (H' : Hp) (σ' : St), Ext c ⟨ms', h', H'⟩ → simH X ⟨ms', h', H'⟩ → simE X ⟨ms', h', H'⟩ env' σ' → T.bk σ' H'
  | .ct env' h' => ∀ (ms' : List Addr) (H' : Hp) (σ' : St), Ext c ⟨ms', h', H'⟩ → simH X ⟨ms', h', H'⟩ → simE X ⟨ms', h', H'⟩ env' σ' → T.ct σ' H'
  | .rt d h' => ∀ (ms' : List Addr) (H' : Hp) (v : V), Ext c ⟨ms', h', H'⟩ → simH X ⟨ms', h', H'⟩ → rep X ⟨ms', h', H'⟩ d v → T.rt v H'
  | .exc x env' h' => ∀ (ms' : List Addr) (H' : Hp) (σ' : St) (cls : Value) (dd : Option Addr), Ext c ⟨ms', h', H'⟩ → simH X ⟨ms', h', H'⟩ → simE X ⟨ms', h', H'⟩ env' σ' → RepX X.K X.w X.mg ⟨ms', h', H'⟩ x cls dd → W cls dd σ' H'
  | .no => False
def tS (g : DS) : TS := fun T σ H => ∃ ms env h, simH X ⟨ms, h, H⟩ ∧ simE X ⟨ms, h, H⟩ env σ ∧ PostS X W ⟨ms, h, H⟩ T (g env h)
def DenS (st : Stmt) (g : DS) : Prop := PS X st (tS X W g)
def DenSs (st : List Stmt) (g : DS) : Prop := PSs X st (tS X W g)
/-- a target: only the slots vs change -/
def tGt (vs : List Nat) (g : DG) : TG := fun v σ H Q => ∃ ms env h d, simH X ⟨ms, h, H⟩ ∧ simE X ⟨ms, h, H⟩ env σ ∧ rep X ⟨ms, h, H⟩ d v ∧ (match g d env h with
  | .ok env' h' => ∀ (ms' : List Addr) (H' : Hp) (σ' : St), Ext ⟨ms, h, H⟩ ⟨ms', h', H'⟩ → simH X ⟨ms', h', H'⟩ → simE X ⟨ms', h', H'⟩ env' σ' → L2.wipe σ' vs = L2.wipe σ vs → Q σ' H'
  | _ => False)
def tGts (vs : List Nat) (g : DGs) : TGs := fun us σ H Q => ∃ ms env h ds, simH X ⟨ms, h, H⟩ ∧ simE X ⟨ms, h, H⟩ env σ ∧ repL X ⟨ms, h, H⟩ ds us ∧ (match g ds env h with
  | .ok env' h' => ∀ (ms' : List Addr) (H' : Hp) (σ' : St), Ext ⟨ms, h, H⟩ ⟨ms', h', H'⟩ → simH X ⟨ms', h', H'⟩ → simE X ⟨ms', h', H'⟩ env' σ' → L2.wipe σ' vs = L2.wipe σ vs → Q σ' H'
  | _ => False)
def DenG (vs : List Nat) (e : Expr) (g : DG) : Prop := PG X e (tGt X vs g)
def DenGs (vs : List Nat) (es : List Expr) (g : DGs) : Prop := PGs X es (tGts X vs g)
end
section
variable {X : Cx} {W : WX}
theorem PS.weak {st : Stmt} {t t' : TS} (h : PS X st t) (i : ∀ T σ H, t' T σ H → t T σ H) : PS X st t' := ⟨fun pins s σ H T I q => h.run pins s σ H T I (i T σ H q)⟩
theorem PSs.weak {st : List Stmt} {t t' : TS} (h : PSs X st t) (i : ∀ T σ H, t' T σ H → t T σ H) : PSs X st t' := ⟨fun pins s σ H T I q => h.run pins s σ H T I (i T σ H q)⟩
theorem PG.weak {e : Expr} {t t' : TG} (h : PG X e t) (i : ∀ v σ H Q, t' v σ H Q → t v σ H Q) : PG X e t' := ⟨fun pins s σ H v u Q I r q => h.run pins s σ H v u Q I r (i v σ H Q q)⟩
theorem PGs.weak {e : List Expr} {t t' : TGs} (h : PGs X e t) (i : ∀ v σ H Q, t' v σ H Q → t v σ H Q) : PGs X e t' := ⟨fun pins s σ H v u Q I r q => h.run pins s σ H v u Q I r (i v σ H Q q)⟩
theorem PostS.ext {c c1 : Cz} {T : Ends} (S : simH X c) (E : Ext c c1) {r : RS} (p : PostS X W c T r) : PostS X W c1 T r := by
  cases r with
  | nx _ _ => exact fun ms' H' σ' E' S' q => p ms' H' σ' (E.trans S E') S' q
  | bk _ _ => exact fun ms' H' σ' E' S' q => p ms' H' σ' (E.trans S E') S' q
  | ct _ _ => exact fun ms' H' σ' E' S' q => p ms' H' σ' (E.trans S E') S' q
  | rt _ _ => exact fun ms' H' σ' E' S' q => p ms' H' σ' (E.trans S E') S' q
  | exc _ _ _ => exact fun ms' H' σ' cls dd E' S' SE q => p ms' H' σ' cls dd (E.trans S E') S' SE q
  | no => exact p
/-- a piece within a statement -/
theorem Post.thenS {α β : Type} {P : Cz → α → β → Prop} {c : Cz} {env : Env} {σ : St} {T : Ends} {K1 : β → Hp → Prop} {r : R α} {g : α → Hh → RS} (S : simH X c) (SE : simE X c env σ) (p : PostS X W c T (r.thenS env g))
    (k : ∀ a h1 ms1 H1 b, Ext c ⟨ms1, h1, H1⟩ → simH X ⟨ms1, h1, H1⟩ → simE X ⟨ms1, h1, H1⟩ env σ → P ⟨ms1, h1, H1⟩ a b → PostS X W ⟨ms1, h1, H1⟩ T (g a h1) → K1 b H1) : PostX X W P c σ K1 r := by
  cases r with
  | ok a h1 => exact fun ms1 H1 b E S1 q => k a h1 ms1 H1 b E S1 (SE.ext S E) q (PostS.ext S E p)
  | exc x h => exact fun ms' H' cls dd E S1 q => p ms' H' σ cls dd E S1 (SE.ext S E) q
  | no => exact p
theorem tS.thenS {α β : Type} {P : Cz → α → β → Prop} {σ : St} {H : Hp} {T : Ends} {K1 : β → Hp → Prop} {f : Env → Hh → R α} {g : Env → α → Hh → RS} (t : tS X W (fun env h => (f env h).thenS env (g env)) T σ H)
    (k : ∀ env a h1 ms1 H1 b, simH X ⟨ms1, h1, H1⟩ → simE X ⟨ms1, h1, H1⟩ env σ → P ⟨ms1, h1, H1⟩ a b → PostS X W ⟨ms1, h1, H1⟩ T (g env a h1) → K1 b H1) : tG X W P f σ H K1 := by
  obtain ⟨ms, env, h, S, SE, p⟩ := t
  exact ⟨ms, env, h, S, SE, Post.thenS S SE p fun a h1 ms1 H1 b E S1 SE1 q p1 => k env a h1 ms1 H1 b S1 SE1 q p1⟩
theorem tS.of {g : DS} {σ : St} {c : Cz} {env : Env} {T : Ends} (S : simH X c) (SE : simE X c env σ) (p : PostS X W c T (g env c.h)) : tS X W g T σ c.H := ⟨c.ms, env, c.h, S, SE, p⟩
theorem PostS.atNx {c : Cz} {env : Env} {σ : St} {T : Ends} (S : simH X c) (SE : simE X c env σ) (p : PostS X W c T (.nx env c.h)) : T.nx σ c.H := p c.ms c.H σ Ext.refl S SE
theorem PostS.atRt {c : Cz} {d : D} {v : V} {T : Ends} (S : simH X c) (r : rep X c d v) (p : PostS X W c T (.rt d c.h)) : T.rt v c.H := p c.ms c.H v Ext.refl S r

/-! ### plain statements -/
theorem dens_expr {e : Expr} {f : DE} {pos : Pos} (h : Den X W e f) (hs : swapsWith e none pos.line X.env = pure false := by rfl) : DenS X W (.Expr e pos) (sExpr f) := by
  refine PS.weak (ps_expr h hs) fun T σ H t => ?_
  exact tS.thenS t fun env a h1 ms1 H1 b S1 SE1 r p => PostS.atNx (c := ⟨ms1, h1, H1⟩) S1 SE1 p
theorem dens_ret {e : Expr} {f : DE} {pos : Pos} (h : Den X W e f) : DenS X W (.Return (some e) pos) (sRet f) := by
  refine PS.weak (ps_ret h) fun T σ H t => ?_
  exact tS.thenS t fun env a h1 ms1 H1 b S1 SE1 r p => PostS.atRt (c := ⟨ms1, h1, H1⟩) S1 r p
/-- a list of the def's own that it hands back -/
theorem dens_retN {pos : Pos} : DenS X W (.Return none pos) sRetN := by
  refine PS.weak ps_retN fun T σ H t => ?_
  obtain ⟨ms, env, h, S, SE, p⟩ := t
  exact PostS.atRt (c := ⟨ms, h, H⟩) S (rep_non.mpr rfl) p
theorem dens_pass {pos : Pos} : DenS X W (.Pass pos) sNil := by
  refine PS.weak ps_pass fun T σ H t => ?_
  obtain ⟨ms, env, h, S, SE, p⟩ := t
  exact PostS.atNx (c := ⟨ms, h, H⟩) S SE p
theorem dens_no {st : Stmt} : DenS X W st sNo := PS.weak ps_never fun T σ H t => by
  obtain ⟨ms, env, h, S, SE, p⟩ := t
  exact p
theorem denss_no {sts : List Stmt} : DenSs X W sts sNo := PSs.weak pss_never fun T σ H t => by
  obtain ⟨ms, env, h, S, SE, p⟩ := t
  exact p
theorem denss_nil : DenSs X W [] sNil := by
  refine PSs.weak pss_nil fun T σ H t => ?_
  obtain ⟨ms, env, h, S, SE, p⟩ := t
  exact PostS.atNx (c := ⟨ms, h, H⟩) S SE p
theorem denss_one {st : Stmt} {g : DS} (h : DenS X W st g) : DenSs X W [st] g := pss_one h
theorem denss_cons {st : Stmt} {sts : List Stmt} {g k : DS} (h : DenS X W st g) (h2 : DenSs X W sts k) : DenSs X W (st :: sts) (sSeq g k) := by
  refine PSs.weak (pss_cons h h2) fun T σ H t => ?_
  obtain ⟨ms, env, hh, S, SE, p⟩ := t
  refine ⟨ms, env, hh, S, SE, ?_⟩
  have p' : PostS X W ⟨ms, hh, H⟩ T ((g env hh).next k) := p
  cases e : g env hh with
  | nx env1 h1 =>
    rw [e] at p'
    exact fun ms' H' σ' E' S' SE' => ⟨ms', env1, h1, S', SE', PostS.ext S E' p'⟩
  | bk _ _ => rw [e] at p'; exact p'
  | ct _ _ => rw [e] at p'; exact p'
  | rt _ _ => rw [e] at p'; exact p'
  | exc _ _ _ => rw [e] at p'; exact p'
  | no => rw [e] at p'; exact p'
theorem dens_if {c : Expr} {a b : List Stmt} {t : DT} {g k : DS} {pos : Pos} (hc : DenT X W c t) (ha : DenSs X W a g) (hb : DenSs X W b k) : DenS X W (.If c a b pos) (sIf t g k) := by
  refine PS.weak (ps_if hc ha hb) fun T σ H t => ?_
  refine tS.thenS t fun env d h1 ms1 H1 x S1 SE1 r p => ?_
  have r' : d = x := r
  subst r'
  cases d with
  | true => exact tS.of (c := ⟨ms1, h1, H1⟩) S1 SE1 p
  | false => exact tS.of (c := ⟨ms1, h1, H1⟩) S1 SE1 p

/-! ### targets -/
theorem wipe_set {i : Nat} {x : Option V} : ∀ {vs : List Nat} {σ : St}, i ∈ vs → L2.wipe (σ.set i x) vs = L2.wipe σ vs
  | [], _, h => by simp at h
  | v :: vs, σ, h => by
    unfold L2.wipe
    by_cases hi : i ∈ vs
    · rw [wipe_set hi]
    · have e : v = i := by
        rcases List.mem_cons.mp h with h | h
        · exact h.symm
        · exact absurd h hi
      subst e
      have com : ∀ (us : List Nat) (τ : St), v ∉ us → L2.wipe (τ.set v x) us = (L2.wipe τ us).set v x := by
        intro us
        induction us with
        | nil => intro τ _; rfl
        | cons u us ih =>
          intro τ hu
          unfold L2.wipe
          rw [ih τ (fun z => hu (List.mem_cons_of_mem _ z)), List.set_comm _ _ (fun z => hu (by rw [z]; exact List.mem_cons_self))]
      rw [com vs σ hi, List.set_set]
theorem simE_set {c : Cz} {env : Env} {σ : St} {i : Nat} {d : D} {v : V} (SE : simE X c env σ) (r : rep X c d v) : simE X c (env.set i (some d)) (σ.set i (some v)) := by
  refine ⟨by simpa using SE.1, fun j e he => ?_⟩
  by_cases z : i = j
  · subst z
    have l : i < env.length := by
      by_cases q : i < env.length
      · exact q
      · rw [List.getElem?_eq_none (by simp; omega)] at he
        cases he
    rw [List.getElem?_set_self l] at he
    cases he
    exact ⟨v, by rw [List.getElem?_set_self (by rw [← SE.1]; exact l)], r⟩
  · rw [List.getElem?_set_ne z] at he ⊢
    exact SE.2 j e he
theorem deng_name {vs : List Nat} (i : Nat) {x : Str} {pos : Pos} (hN : X.N.Nodup) (hi : X.N[i]? = some x := by rfl) (hx : Loc X.env.scope x := by first | exact Or.inl rfl | exact Or.inr rfl) (hv : i ∈ vs := by decide)
    (hf : X.fn x = true ∨ X.env.scope.names.lookup x = some .local := by first | exact .inl rfl | exact .inr rfl) : DenG X vs (.Name x pos) (gName i) := by
  refine PG.weak (pg_name hN hi hx hf) fun v σ H Q t => ?_
  obtain ⟨ms, env, h, d, S, SE, r, p⟩ := t
  exact p ms H _ Ext.refl S (simE_set SE r) (wipe_set hv)
theorem dengs_nil {vs : List Nat} : DenGs X vs [] Dn.gNil := by
  refine PGs.weak pgs_nil fun us σ H Q t => ?_
  obtain ⟨ms, env, h, ds, S, SE, r, p⟩ := t
  cases ds with
  | nil => exact ⟨RepL.of_nil r, p ms H σ Ext.refl S SE rfl⟩
  | cons _ _ => exact False.elim p
theorem dengs_cons {vs : List Nat} {e : Expr} {es : List Expr} {g : DG} {gs : DGs} (h : DenG X vs e g) (h2 : DenGs X vs es gs) (he : (assignEach (e :: es) X.env).map (·.2) = assign e X.env :: (assignEach es X.env).map (·.2) := by rfl) : DenGs X vs (e :: es) (Dn.gCons g gs) := by
  refine PGs.weak (pgs_cons h h2 he) fun us σ H Q t => ?_
  obtain ⟨ms, env, hh, ds, S, SE, r, p⟩ := t
  cases ds with
  | nil => exact False.elim p
  | cons d ds =>
    obtain ⟨v, r', rfl, r1, r2⟩ := RepL.of_cons r
    refine ⟨v, r', rfl, ms, env, hh, d, S, SE, r1, ?_⟩
    have p' : (match (g d env hh).bind fun env h => gs ds env h with
      | .ok env' h' => ∀ (ms' : List Addr) (H' : Hp) (σ' : St), Ext ⟨ms, hh, H⟩ ⟨ms', h', H'⟩ → simH X ⟨ms', h', H'⟩ → simE X ⟨ms', h', H'⟩ env' σ' → L2.wipe σ' vs = L2.wipe σ vs → Q σ' H'
      | _ => False) := p
    cases e1 : g d env hh with
    | ok env1 h1 =>
      rw [e1] at p'
      intro ms1 H1 σ1 E1 S1 SE1 w1
      refine ⟨ms1, env1, h1, ds, S1, SE1, RepL.ext S E1 _ _ r2, ?_⟩
      have p2 : (match gs ds env1 h1 with
        | .ok env' h' => ∀ (ms' : List Addr) (H' : Hp) (σ' : St), Ext ⟨ms, hh, H⟩ ⟨ms', h', H'⟩ → simH X ⟨ms', h', H'⟩ → simE X ⟨ms', h', H'⟩ env' σ' → L2.wipe σ' vs = L2.wipe σ vs → Q σ' H'
        | _ => False) := p'
      cases e2 : gs ds env1 h1 with
      | ok env2 h2 =>
        rw [e2] at p2
        exact fun ms2 H2 σ2 E2 S2 SE2 w2 => p2 ms2 H2 σ2 (E1.trans S E2) S2 SE2 (w2.trans w1)
      | exc _ _ => rw [e2] at p2; exact False.elim p2
      | no => rw [e2] at p2; exact False.elim p2
    | exc _ _ => rw [e1] at p'; exact False.elim p'
    | no => rw [e1] at p'; exact False.elim p'
theorem deng_tup {vs : List Nat} {es : List Expr} {k n : Nat} {gs : DGs} {pos : Pos} (hc : X.calm = true) (h : DenGs X vs es gs) (hn : (assignEach es X.env).length = n := by rfl) (hst : (assignEach es X.env).findIdx? (·.1) = none := by rfl) :
    DenG X vs (.Tuple es k pos) (Dn.gTup n gs) := by
  refine PG.weak (pg_tup (n := n) hc h hn hst) fun v σ H Q t => ?_
  obtain ⟨ms, env, hh, d, S, SE, r, p⟩ := t
  cases d <;> first | exact False.elim p | skip
  case tup ds =>
    obtain ⟨a, us, rfl, q, rs, z⟩ := rep_tup.mp r
    by_cases e : ds.length = n
    · refine ⟨a, us, rfl, q, by rw [← repL_len rs]; exact e, ms, env, hh, ds, S, SE, rs, ?_⟩
      simp only [Dn.gTup, if_pos e] at p
      exact p
    · simp only [Dn.gTup, if_neg e] at p
theorem onG_of {vs : List Nat} {g : DG} {c : Cz} {d : D} {v : V} {env : Env} {σ : St} {T : Ends} (S : simH X c) (SE : simE X c env σ) (r : rep X c d v) (p : PostS X W c T (onG (g d env c.h))) : tGt X vs g v σ c.H T.nx := by
  refine ⟨c.ms, env, c.h, d, S, SE, r, ?_⟩
  cases e : g d env c.h with
  | ok env' h' =>
    rw [e] at p
    exact fun ms' H' σ' E S' SE' _ => p ms' H' σ' E S' SE'
  | exc _ _ => rw [e] at p; exact p
  | no => rw [e] at p; exact p
theorem dens_set (vs : List Nat) {tg e : Expr} {f : DE} {g : DG} {pos : Pos} (h : Den X W e f) (hg : DenG X vs tg g) (hs : swapsWithSole [tg] e pos.line X.env = pure false := by rfl) (hw : swappedStores [tg] e X.env = pure none := by rfl) (h1 : (assignEach [tg] X.env).map (·.2) = [assign tg X.env] := by rfl) : DenS X W (.Assign [tg] e pos) (sSet f g) := by
  refine PS.weak (ps_asg h hg hs hw h1) fun T σ H t => ?_
  exact tS.thenS t fun env a h1 ms1 H1 b S1 SE1 r p => onG_of (c := ⟨ms1, h1, H1⟩) S1 SE1 r p
theorem dens_aug (i : Nat) {x : Str} {e : Expr} {f : DE} {op : Operator} {r : TIp} {F : D → D → Hh → R D} {pos pos' : Pos} (hN : X.N.Nodup) (ho : PIp X op r) (hf : OpD (X := X) (W := W) r F) (h : Den X W e f) (hi : X.N[i]? = some x := by rfl)
    (hx : Loc X.env.scope x := by first | exact Or.inl rfl | exact Or.inr rfl) (hfn : X.fn x = true ∨ X.env.scope.names.lookup x = some .local := by first | exact .inl rfl | exact .inr rfl) : DenS X W (.AugAssign (.Name x pos') op e pos) (sAug i F f) := by
  refine PS.weak (ps_aug hN hi hx h ho hfn) fun T σ H t => ?_
  obtain ⟨ms, env, hh, S, SE, p⟩ := t
  have p' : PostS X W ⟨ms, hh, H⟩ T ((e2 F (eVar i) f env hh).thenS env fun d h => .nx (env.set i (some d)) h) := p
  unfold e2 eVar at p'
  cases e1 : env[i]? with
  | none =>
    simp only [e1, R.bind_no, R.thenS_no] at p'
    exact False.elim p'
  | some o =>
    cases o with
    | none =>
      simp only [e1, R.bind_no, R.thenS_no] at p'
      exact False.elim p'
    | some d =>
      simp only [e1, R.bind_ok] at p'
      obtain ⟨v, ev, rv⟩ := SE.2 i d e1
      refine ⟨v, ev, ms, env, hh, S, SE, ?_⟩
      have p2 : PostX X W (rep X) ⟨ms, hh, H⟩ σ (fun z H2 => T.nx (σ.set i (some z)) H2) ((f env hh).bind fun y h => F d y h) :=
        Post.thenS S SE p' fun a h1 ms1 H1 b E S1 SE1 r p1 => PostS.atNx (c := ⟨ms1, h1, H1⟩) S1 (simE_set SE1 r) p1
      exact Post.bind S p2 fun y h1 ms1 H1 y' E1 S1 r1 p3 => hf ⟨ms1, h1, H1⟩ d y v y' σ _ S1 (Rep.ext S E1 _ _ rv) r1 p3
theorem insOf_at {C : String} {c : Cz} {x : D} {v : V} {n : Nat} {fs : List String} {ds : List D} (S : simH X c) (h : insOf C x c.h = some (n, fs, ds)) (r : rep X c x v) :
    x = .loc n ∧ c.h[n]? = some (some (.ins C fs ds)) ∧ ∃ (a Ca dx : Addr) (vs : List V), c.ms[n]? = some a ∧ v = .ref a ∧ X.mg (Str.ofString C) = some (.ref Ca) ∧ c.H a = some (.ins Ca dx ((fs.map Str.ofString).zip vs)) ∧ fs.length = vs.length ∧ repL X c ds vs := by
  cases x <;> simp only [insOf] at h <;> first | (cases h; done) | skip
  case loc j =>
    cases hn : c.h[j]? with
    | none =>
      rw [hn] at h
      cases h
    | some o =>
      cases o with
      | none =>
        rw [hn] at h
        cases h
      | some o =>
        cases o <;> rw [hn] at h <;> first | (cases h; done) | skip
        case ins C' fs' ds' =>
          by_cases e : C' = C
          · subst e
            simp only [if_pos rfl] at h
            cases h
            obtain ⟨a, ea, rfl, Ca, dx, vs, q1, q2, l, rs⟩ := live_at S hn r
            exact ⟨rfl, hn, a, Ca, dx, vs, ea, rfl, q1, q2, l, rs⟩
          · simp only [if_neg e] at h
            cases h
/-- a field's store -/
theorem setF_of {C f : String} {c : Cz} {x d : D} {v u : V} {σ : St} {T : Ends} {env : Env} (S : simH X c) (SE : simE X c env σ) (hc : ClsF X.K X.mg C f) (rx : rep X c x v) (rd : rep X c d u) (p : PostS X W c T ((setF C f x d c.h).thenS env fun _ h => .nx env h)) :
    ∃ a Ca dx fs, v = .ref a ∧ c.H a = some (.ins Ca dx fs) ∧ Cls X.K Ca ∧ NoAttr X.K Ca (Str.ofString f) ∧ fs.length < 1000 ∧ T.nx σ (upd c.H a (.ins Ca dx (putF (Str.ofString f) u fs))) := by
  unfold setF at p
  cases e : insOf C x c.h with
  | none =>
    rw [e] at p
    exact False.elim p
  | some q =>
    obtain ⟨n, fs, ds⟩ := q
    rw [e] at p
    simp only at p
    obtain ⟨rfl, hn, a, Ca, dx, vs, ea, rfl, q1, q2, l, rs⟩ := insOf_at S e rx
    by_cases z : fs.length < 900
    · rw [if_pos z] at p
      obtain ⟨us, e1, e2, e3⟩ := fput_zip f u d fs ds vs (by rw [repL_len rs]; exact l) (repL_len rs)
      refine ⟨a, Ca, dx, _, rfl, q2, (hc Ca q1).1, (hc Ca q1).2, ?_, ?_⟩
      · rw [List.length_zip, List.length_map]
        omega
      · have E := Ext.put (oo := .ins C (fput f d fs ds).1 (fput f d fs ds).2) (u := .ins Ca dx (putF (Str.ofString f) u ((fs.map Str.ofString).zip vs))) S hn ea
        have S' : simH X ⟨c.ms, c.h.set n (some (.ins C (fput f d fs ds).1 (fput f d fs ds).2)), upd c.H a (.ins Ca dx (putF (Str.ofString f) u ((fs.map Str.ofString).zip vs)))⟩ :=
          SimH.put S hn ea ⟨Ca, dx, us, q1, by rw [← e1]; exact upd_same, e2, e3 (RepL.ext S E _ _ rs) (Rep.ext S E _ _ rd)⟩
        exact p c.ms _ σ E S' (SE.ext S E)
    · rw [if_neg z] at p
      exact False.elim p
theorem dens_fld {o e : Expr} {fo f : DE} {C nm : String} {x : Str} {pos pos' : Pos} (ex : x = Str.ofString nm) (hc : ClsF X.K X.mg C nm) (ho : Den X W o fo) (he : Den X W e f) (hs : swapsWith e (some (.Attribute o x pos')) pos.line X.env = pure false := by rfl) :
    DenS X W (.Assign [.Attribute o x pos'] e pos) (Dn.sFld C nm fo f) := by
  subst ex
  refine PS.weak (ps_fld ho he hs) fun T σ H t => ?_
  obtain ⟨ms, env, hh, S, SE, p⟩ := t
  have p' : PostS X W ⟨ms, hh, H⟩ T (((f env hh).bind fun v h => (fo env h).bind fun x h => setF C nm x v h).thenS env fun _ h => .nx env h) := p
  refine ⟨ms, env, hh, S, SE, ?_⟩
  have p2 : PostX X W (rep X) ⟨ms, hh, H⟩ σ (fun y H1 => tG X W (rep X) fo σ H1 fun x H2 => ∃ a Ca dx fs, x = .ref a ∧ H2 a = some (.ins Ca dx fs) ∧ Cls X.K Ca ∧ NoAttr X.K Ca (Str.ofString nm) ∧ fs.length < 1000 ∧ T.nx σ (upd H2 a (.ins Ca dx (putF (Str.ofString nm) y fs)))) (f env hh) := by
    cases e1 : f env hh with
    | ok d h1 =>
      rw [e1] at p'
      intro ms1 H1 y E1 S1 r1
      have SE1 := SE.ext S E1
      have p3 := PostS.ext S E1 p'
      refine ⟨ms1, env, h1, S1, SE1, ?_⟩
      have p4 : PostS X W ⟨ms1, h1, H1⟩ T (((fo env h1).bind fun x h => setF C nm x d h).thenS env fun _ h => .nx env h) := p3
      cases e2 : fo env h1 with
      | ok x h2 =>
        rw [e2] at p4
        intro ms2 H2 v E2 S2 r2
        exact setF_of (c := ⟨ms2, h2, H2⟩) S2 (SE1.ext S1 E2) hc r2 (Rep.ext S1 E2 _ _ r1) (PostS.ext S1 E2 p4)
      | exc x h2 =>
        rw [e2] at p4
        exact fun ms' H' cls dd E S' q => p4 ms' H' σ cls dd E S' (SE1.ext S1 E) q
      | no =>
        rw [e2] at p4
        exact p4
    | exc x h1 =>
      rw [e1] at p'
      exact fun ms' H' cls dd E S' q => p' ms' H' σ cls dd E S' (SE.ext S E) q
    | no =>
      rw [e1] at p'
      exact p'
  exact p2
end
end Dn

/-! text DnI -/
set_option maxHeartbeats 1000000
set_option Elab.async false
set_option linter.all false
set_option maxRecDepth 100000
set_option autoImplicit false
/-! Dn, part I: lists given away, methods of built-in types, built-ins. -/
namespace Dn
open PySem L2
section
variable {X : Cx} {W : WX}
/-! ### a list that is a value from now on -/
theorem Ext.frz {ms : List Addr} {h : Hh} {H : Hp} {n : Nat} {o : O} (hn : h[n]? = some (some o)) : Ext ⟨ms, h, H⟩ ⟨ms, h.set n none, H⟩ := by
  refine ⟨⟨[], by simp⟩, by simp, fun m hm => ?_, fun m b hm e => ?_, fun _ _ q _ => q, fun _ q => q⟩
  · have hm2 : h[m]? = some none := hm
    show (h.set n none)[m]? = some none
    by_cases z : n = m
    · subst z
      rw [hn] at hm2
      cases hm2
    · rw [List.getElem?_set_ne z]
      exact hm2
  · exfalso
    have e2 : ms[m]? = some b := e
    rw [List.getElem?_eq_none hm] at e2
    cases e2
theorem frz_live {h : Hh} {n m : Nat} {o : O} (hm : (h.set n none)[m]? = some (some o)) : n ≠ m ∧ h[m]? = some (some o) := by
  by_cases z : n = m
  · subst z
    by_cases l : n < h.length
    · rw [List.getElem?_set_self l] at hm
      cases hm
    · rw [List.getElem?_eq_none (by simp; omega)] at hm
      cases hm
  · rw [List.getElem?_set_ne z] at hm
    exact ⟨z, hm⟩
theorem SimH.frz {ms : List Addr} {h : Hh} {H : Hp} {n : Nat} {o : O} (S : simH X ⟨ms, h, H⟩) (hn : h[n]? = some (some o)) : simH X ⟨ms, h.set n none, H⟩ := by
  refine ⟨by have L := S.len; simpa using L, S.nd, S.all, fun m ob hm => ?_⟩
  obtain ⟨z, hm2⟩ := frz_live hm
  obtain ⟨a, ea, ro⟩ := S.live m ob hm2
  exact ⟨a, ea, ro.ext S (Ext.frz hn) rfl⟩
theorem den_frz {e : Expr} {f : DE} (h : Den X W e f) : Den X W e (eFrz f) := by
  refine PE.weak h fun σ H Q t => ?_
  refine tG.bind t fun env d h1 ms1 H1 v S1 SE1 r p => ?_
  cases d <;> first | exact False.elim p | skip
  case loc n =>
    cases hn : h1[n]? with
    | none =>
      simp only [hn] at p
      exact False.elim p
    | some o =>
      cases o with
      | none =>
        simp only [hn] at p
        exact False.elim p
      | some o =>
        cases o <;> simp only [hn] at p <;> first | exact False.elim p | skip
        case lst ds =>
          obtain ⟨a, ea, rfl, vs, q, rs, z⟩ := live_at (c := ⟨ms1, h1, H1⟩) S1 hn r
          have E : Ext ⟨ms1, h1, H1⟩ ⟨ms1, h1.set n none, H1⟩ := Ext.frz hn
          refine p ms1 H1 (.ref a) E (SimH.frz S1 hn) (rep_lst.mpr ⟨a, vs, rfl, q, fun m o hm hb => ?_, RepL.ext S1 E _ _ rs, z⟩)
          obtain ⟨z, hm2⟩ := frz_live hm
          exact z (S1.nd n m a ea hb)

/-! ### built-ins by name -/
/-- a call's rule by values does what F does -/
def CalD (X : Cx) (W : WX) (r : List V → Hp → VK → Prop) (F : Fn) : Prop := ∀ (c : Cz) (ds : List D) (vs : List V) (σ : St) (Q : VK), simH X c → repL X c ds vs → PostX X W (rep X) c σ Q (F ds c.h) → r vs c.H Q
theorem tB_of {r : List V → Hp → VK → Prop} {F : Fn} {fs : DA} (hf : CalD X W r F) (σ : St) (H : Hp) (Q : VK) (t : tG X W (rep X) (eB F fs) σ H Q) : tCB r (tG X W (repL X) fs) σ H Q :=
  tG.bind t fun env ds h1 ms1 H1 vs S1 SE1 rl p => hf ⟨ms1, h1, H1⟩ ds vs σ Q S1 rl p
theorem den_callB {id : String} {x : Str} {p pos : Pos} {e : Expr} {es : List Expr} {fs : DA} {r : List V → Hp → VK → Prop} {F : Fn} (hc : CallR X (.builtin id) r) (hf : CalD X W r F) (hg : Gl X x) (hm : X.mg x = none) (hv : bootBuiltins x = some (.builtin id)) (ha : DenA X W (e :: es) fs)
    (hn : x ≠ "__name__" := by decide) (hdb : (x == ("__debug__" : Str)) = false := by decide) (he : starEach (e :: es) X.env = (false, eval e X.env) :: starEach es X.env := by rfl) (hpl : (backTo pos (starEach es X.env)).any (·.1) = false := by rfl) :
    Den X W (.Call (.Name x p) (e :: es) [] pos) (eB F fs) := PE.weak (pe_callB hc hg hm hv ha hn hdb he hpl) (tB_of hf)
theorem den_callTy {T : String} {x : Str} {p pos : Pos} {e : Expr} {es : List Expr} {fs : DA} {r : List V → Hp → VK → Prop} {F : Fn} (hc : CallR X (.type T) r) (hf : CalD X W r F) (hg : Gl X x) (hm : X.mg x = none) (hv : bootBuiltins x = some (.type T)) (ha : DenA X W (e :: es) fs)
    (hn : x ≠ "__name__" := by decide) (hdb : (x == ("__debug__" : Str)) = false := by decide) (he : starEach (e :: es) X.env = (false, eval e X.env) :: starEach es X.env := by rfl) (hpl : (backTo pos (starEach es X.env)).any (·.1) = false := by rfl) :
    Den X W (.Call (.Name x p) (e :: es) [] pos) (eB F fs) := PE.weak (pe_callTy hc hg hm hv ha hn hdb he hpl) (tB_of hf)
/-- a built-in type as a value -/
theorem den_ty {x : Str} {T : String} {pos : Pos} (hg : Gl X x) (hm : X.mg x = none) (hv : bootBuiltins x = some (.type T)) (hn : x ≠ "__name__" := by decide) (hd : (x == ("__debug__" : Str)) = false := by decide) : Den X W (.Name x pos) (eC (.ty T)) :=
  den_c (pe_bltn hg hm hv (show RelV (.ty T) (.type T) from rfl) hn hd) fun c => by simp [rep, Rep]
theorem repL1 {c : Cz} {d : D} {vs : List V} (r : repL X c [d] vs) : ∃ v, vs = [v] ∧ rep X c d v := by
  obtain ⟨v, us, rfl, r1, r2⟩ := RepL.of_cons r
  rw [RepL.of_nil r2]
  exact ⟨v, rfl, r1⟩
theorem repL2 {c : Cz} {d e : D} {vs : List V} (r : repL X c [d, e] vs) : ∃ v u, vs = [v, u] ∧ rep X c d v ∧ rep X c e u := by
  obtain ⟨v, us, rfl, r1, r2⟩ := RepL.of_cons r
  obtain ⟨u, rfl, r3⟩ := repL1 r2
  exact ⟨v, u, rfl, r1, r3⟩
theorem repL0 {c : Cz} {vs : List V} (r : repL X c [] vs) : vs = [] := RepL.of_nil r
theorem calD1 {r : List V → Hp → VK → Prop} {f : D → Hh → R D} (h : ∀ (c : Cz) (d : D) (v : V) (σ : St) (Q : VK), simH X c → rep X c d v → PostX X W (rep X) c σ Q (f d c.h) → r [v] c.H Q) : CalD X W r (on1 f) := by
  intro c ds vs σ Q S rl p
  cases ds with
  | nil => exact False.elim p
  | cons d ds =>
    cases ds with
    | nil =>
      obtain ⟨v, rfl, r⟩ := repL1 rl
      exact h c d v σ Q S r p
    | cons _ _ => exact False.elim p
theorem calD2 {r : List V → Hp → VK → Prop} {f : D → D → Hh → R D} (h : ∀ (c : Cz) (d e : D) (v u : V) (σ : St) (Q : VK), simH X c → rep X c d v → rep X c e u → PostX X W (rep X) c σ Q (f d e c.h) → r [v, u] c.H Q) : CalD X W r (on2 f) := by
  intro c ds vs σ Q S rl p
  cases ds with
  | nil => exact False.elim p
  | cons d ds =>
    cases ds with
    | nil => exact False.elim p
    | cons e ds =>
      cases ds with
      | nil =>
        obtain ⟨v, u, rfl, r1, r2⟩ := repL2 rl
        exact h c d e v u σ Q S r1 r2 p
      | cons _ _ => exact False.elim p
/-- the lists of the small heap, for the rules -/
theorem SqL.scr {c : Cz} {ns : List Int} {v : V} (r : rep X c (.scr ns) v) : ∃ a, v = .ref a ∧ ns.length ≤ big ∧ SqL X.K c.H a (ns.map V.int) := by
  unfold rep Rep at r
  obtain ⟨a, e, z, q⟩ := r
  refine ⟨a, e, z, ?_⟩
  rcases q with ⟨q, _⟩ | q
  · exact .inl q
  · exact q c.H
/-- a list of the small heap -/
theorem loc_lst {c : Cz} {n : Nat} {ds : List D} {v : V} (S : simH X c) (hn : c.h[n]? = some (some (.lst ds))) (r : rep X c (.loc n) v) : ∃ a vs, v = .ref a ∧ c.H a = some (.lst vs) ∧ repL X c ds vs ∧ ds.length ≤ big ∧ c.ms[n]? = some a := by
  obtain ⟨a, ea, rfl, vs, q, rs, z⟩ := live_at S hn r
  exact ⟨a, vs, rfl, q, rs, z, ea⟩
theorem loc_dic {c : Cz} {n : Nat} {ks : List Ky} {ds : List D} {v : V} (S : simH X c) (hn : c.h[n]? = some (some (.dic ks ds))) (r : rep X c (.loc n) v) : ∃ a vs, v = .ref a ∧ c.H a = some (.dK ((ks.map kyK).zip vs)) ∧ ks.length = vs.length ∧ repL X c ds vs ∧ c.ms[n]? = some a := by
  obtain ⟨a, ea, rfl, vs, q, l, rs⟩ := live_at S hn r
  exact ⟨a, vs, rfl, q, l, rs, ea⟩
theorem bools_of {c : Cz} : ∀ {xs : List D} {us : List V}, repL X c xs us → (∀ b, allB xs = some b → ∃ bs : List Bool, us = bs.map V.bl ∧ bs.all id = b) ∧ ∀ b, anyB xs = some b → ∃ bs : List Bool, us = bs.map V.bl ∧ bs.any id = b
  | [], us, r => by
    rw [RepL.of_nil r]
    exact ⟨fun b e => ⟨[], rfl, by simpa [allB] using e⟩, fun b e => ⟨[], rfl, by simpa [anyB] using e⟩⟩
  | x :: xs, us, r => by
    obtain ⟨u, us', rfl, r1, r2⟩ := RepL.of_cons r
    have ih := bools_of r2
    cases x <;> first | (refine ⟨fun b e => ?_, fun b e => ?_⟩ <;> (simp only [allB, anyB] at e; cases e) <;> done) | skip
    case bl k =>
      refine ⟨fun b e => ?_, fun b e => ?_⟩
      · obtain ⟨b', e1, e2⟩ := Option.map_eq_some_iff.mp (show (allB xs).map (fun c => k && c) = some b from e)
        obtain ⟨bs, rfl, e3⟩ := ih.1 b' e1
        exact ⟨k :: bs, by rw [rep_bl.mp r1] <;> rfl, by rw [← e2, ← e3] <;> rfl⟩
      · obtain ⟨b', e1, e2⟩ := Option.map_eq_some_iff.mp (show (anyB xs).map (fun c => k || c) = some b from e)
        obtain ⟨bs, rfl, e3⟩ := ih.2 b' e1
        exact ⟨k :: bs, by rw [rep_bl.mp r1] <;> rfl, by rw [← e2, ← e3] <;> rfl⟩
theorem calD_all : CalD X W (rAll X.K) bAll := calD1 fun c d v σ Q S r p => by
  cases d <;> first | exact False.elim p | skip
  case lst xs =>
    obtain ⟨a, us, rfl, q, _, rs, z⟩ := rep_lst.mp r
    cases e : allB xs with
    | none =>
      simp only [fAll, e] at p
      exact False.elim p
    | some b =>
      simp only [fAll, e] at p
      obtain ⟨bs, rfl, e2⟩ := (bools_of rs).1 b e
      exact ⟨a, bs, rfl, SqL.of q, by rw [e2]; exact Post.at S p (rep_bl.mpr rfl)⟩
theorem calD_any : CalD X W (rAny X.K) bAny := calD1 fun c d v σ Q S r p => by
  cases d <;> first | exact False.elim p | skip
  case lst xs =>
    obtain ⟨a, us, rfl, q, _, rs, z⟩ := rep_lst.mp r
    cases e : anyB xs with
    | none =>
      simp only [fAny, e] at p
      exact False.elim p
    | some b =>
      simp only [fAny, e] at p
      obtain ⟨bs, rfl, e2⟩ := (bools_of rs).2 b e
      exact ⟨a, bs, rfl, SqL.of q, by rw [e2]; exact Post.at S p (rep_bl.mpr rfl)⟩

/-! ### isinstance -/
theorem isi_table (K : PySem.W.Frag) : ∀ t ∈ ["NoneType", "bool", "int", "str", "tuple", "list", "dict"], ∀ T ∈ ["str", "int", "bool", "tuple", "list", "dict"], PySem.W.kitOne K (.type t) (.type T) = some (isT t T) := by
  intro t ht T hT
  simp only [List.mem_cons, List.not_mem_nil, or_false] at ht hT
  rcases ht with rfl | rfl | rfl | rfl | rfl | rfl | rfl <;> rcases hT with rfl | rfl | rfl | rfl | rfl | rfl <;> first | rfl | kernel_rfl
theorem tyX_of {c : Cz} {d : D} {v : V} {t : String} (S : simH X c) (r : rep X c d v) (e : tyOf d c.h = some t) : TyX X.K c.H v (.type t) ∧ t ∈ ["NoneType", "bool", "int", "str", "tuple", "list", "dict"] := by
  cases d <;> simp only [tyOf] at e <;> first | (cases e; done) | skip
  case non => cases e; rw [rep_non.mp r]; exact ⟨.base .non, by decide⟩
  case bl => cases e; rw [rep_bl.mp r]; exact ⟨.base (.bl _), by decide⟩
  case int => cases e; rw [rep_int.mp r]; exact ⟨.base (.int _), by decide⟩
  case str => cases e; rw [(rep_str.mp r).1]; exact ⟨.base (.str _), by decide⟩
  case tup ds =>
    cases e
    obtain ⟨a, vs, rfl, q, rs, z⟩ := rep_tup.mp r
    refine ⟨?_, by decide⟩
    rcases q with (q | ⟨o, q⟩) | ⟨o, its, n, q, q2, _⟩
    · exact .base (.tup q)
    · exact .fTuple q
    · exact .kTuple q q2
  case lst ds =>
    cases e
    obtain ⟨a, vs, rfl, q, _⟩ := rep_lst.mp r
    exact ⟨.base (.lst q), by decide⟩
  case dic ks ds =>
    cases e
    unfold rep Rep at r
    obtain ⟨a, vs, rfl, l, rs, q, _⟩ := r
    exact ⟨.base (.dK q), by decide⟩
  case loc n =>
    split at e <;> cases e
    · rename_i ds hn
      obtain ⟨a, vs, rfl, q, _⟩ := loc_lst S hn r
      exact ⟨.base (.lst q), by decide⟩
    · rename_i ks ds hn
      obtain ⟨a, vs, rfl, q, _⟩ := loc_dic S hn r
      exact ⟨.base (.dK q), by decide⟩
theorem calD_isi : CalD X W (rIsi X.K) bIsi := calD2 fun c d e v u σ Q S r re p => by
  cases e <;> first | exact False.elim p | skip
  case ty T =>
    by_cases hT : T ∈ ["str", "int", "bool", "tuple", "list", "dict"]
    · simp only [fIsi, if_pos hT] at p
      cases e : tyOf d c.h with
      | none =>
        simp only [e] at p
        exact False.elim p
      | some t =>
        simp only [e] at p
        obtain ⟨h1, h2⟩ := tyX_of S r e
        have hu : u = .ty T := by simpa [rep, Rep] using re
        subst hu
        exact ⟨v, .ty T, .type t, .type T, isT t T, rfl, .ty T, h1, isi_table X.K t h2 T hT, Post.at S p (rep_bl.mpr rfl)⟩
    · simp only [fIsi, if_neg hT] at p
      exact False.elim p

/-! ### len, str, int, abs, min, max, tuple, list -/
def rLenAll (K : PySem.W.Frag) : List V → Hp → VK → Prop := fun xs H Q => (∃ x n, xs = [x] ∧ LenV K x H n ∧ Q (.int n) H) ∨ ∃ a kvs, xs = [V.ref a] ∧ H a = some (.dK kvs) ∧ Q (.int kvs.length) H
theorem call_lenAll : CallR X (.builtin "len") (rLenAll X.K) := by
  intro pins s σ H xs us Q I r h
  rcases h with h | h
  · exact call_len pins s σ H xs us Q I r h
  · exact call_lenD pins s σ H xs us Q I r h
theorem calD_len : CalD X W (rLenAll X.K) bLen := calD1 fun c d v σ Q S r p => by
  cases d <;> first | exact False.elim p | skip
  case str t =>
    obtain ⟨rfl, z, _⟩ := rep_str.mp r
    exact .inl ⟨_, t.length, rfl, ⟨by rw [toS_length, ← big_eq]; exact z, (toS_length t).symm⟩, Post.at S p (rep_int.mpr rfl)⟩
  case tup ds =>
    obtain ⟨a, vs, rfl, q, rs, z⟩ := rep_tup.mp r
    exact .inl ⟨_, ds.length, rfl, .inr ⟨vs, q, repL_len rs⟩, Post.at S p (rep_int.mpr rfl)⟩
  case lst ds =>
    obtain ⟨a, vs, rfl, q, _, rs, z⟩ := rep_lst.mp r
    exact .inl ⟨_, ds.length, rfl, .inl ⟨vs, SqL.of q, repL_len rs⟩, Post.at S p (rep_int.mpr rfl)⟩
  case scr ns =>
    obtain ⟨a, rfl, z, q⟩ := SqL.scr r
    exact .inl ⟨_, ns.length, rfl, .inl ⟨_, q, by simp⟩, Post.at S p (rep_int.mpr rfl)⟩
  case dic ks ds =>
    unfold rep Rep at r
    obtain ⟨a, vs, rfl, l, rs, q, _⟩ := r
    refine .inr ⟨a, _, rfl, q, ?_⟩
    rw [List.length_zip, List.length_map, ← l, Nat.min_self]
    exact Post.at S p (rep_int.mpr rfl)
  case loc n =>
    simp only [fLen] at p
    split at p
    · rename_i ds hn
      obtain ⟨a, vs, rfl, q, rs, z, _⟩ := loc_lst S hn r
      exact .inl ⟨_, ds.length, rfl, .inl ⟨vs, SqL.of q, repL_len rs⟩, Post.at S p (rep_int.mpr rfl)⟩
    · rename_i ks ds hn
      obtain ⟨a, vs, rfl, q, l, rs, _⟩ := loc_dic S hn r
      refine .inr ⟨a, _, rfl, q, ?_⟩
      rw [List.length_zip, List.length_map, ← l, Nat.min_self]
      exact Post.at S p (rep_int.mpr rfl)
    · exact False.elim p
theorem calD_abs : CalD X W (fun xs H Q => ∃ i, xs = [.int i] ∧ Q (.int (if i < 0 then -i else i)) H) bAbs := calD1 fun c d v σ Q S r p => by
  cases d <;> first | exact False.elim p | skip
  case int i => exact ⟨i, by rw [rep_int.mp r], Post.at S p (rep_int.mpr rfl)⟩
theorem calD_min : CalD X W (fun xs H Q => ∃ i j, xs = [.int i, .int j] ∧ Q (.int (if j < i then j else i)) H) bMin := calD2 fun c d e v u σ Q S r re p => by
  cases d <;> cases e <;> first | exact False.elim p | skip
  case int.int i j => exact ⟨i, j, by rw [rep_int.mp r, rep_int.mp re], Post.at S p (rep_int.mpr rfl)⟩
theorem calD_max : CalD X W (fun xs H Q => ∃ i j, xs = [.int i, .int j] ∧ Q (.int (if j > i then j else i)) H) bMax := calD2 fun c d e v u σ Q S r re p => by
  cases d <;> cases e <;> first | exact False.elim p | skip
  case int.int i j => exact ⟨i, j, by rw [rep_int.mp r, rep_int.mp re], Post.at S p (rep_int.mpr rfl)⟩
theorem calD_tuple : CalD X W (fun xs H Q => ∃ p ys, xs = [.ref p] ∧ ((SqL X.K H p ys ∧ ∀ l, H l = none → Q (.ref l) (upd H l (.tup ys))) ∨ (SqT X.K H p ys ∧ Q (.ref p) H))) bTuple := calD1 fun c d v σ Q S r p => by
  cases d <;> first | exact False.elim p | skip
  case lst ds =>
    obtain ⟨a, vs, rfl, q, _, rs, z⟩ := rep_lst.mp r
    exact ⟨a, vs, rfl, .inl ⟨SqL.of q, fun l hl => Post.new S p hl (new_tup S hl rs z)⟩⟩
  case tup ds =>
    obtain ⟨a, vs, rfl, q, rs, z⟩ := rep_tup.mp r
    exact ⟨a, vs, rfl, .inr ⟨q, Post.at S p r⟩⟩
  case loc n =>
    simp only [fTuple] at p
    split at p
    · rename_i ds hn
      obtain ⟨a, vs, rfl, q, rs, z, _⟩ := loc_lst S hn r
      exact ⟨a, vs, rfl, .inl ⟨SqL.of q, fun l hl => Post.new S p hl (new_tup S hl rs z)⟩⟩
    · exact False.elim p
theorem calD_list : CalD X W (fun xs H Q => ∃ p ys, xs = [.ref p] ∧ (SqL X.K H p ys ∨ SqT X.K H p ys) ∧ ∀ l, H l = none → Q (.ref l) (upd H l (.lst ys))) bList := calD1 fun c d v σ Q S r p => by
  cases d <;> first | exact False.elim p | skip
  case lst ds =>
    obtain ⟨a, vs, rfl, q, _, rs, z⟩ := rep_lst.mp r
    exact ⟨a, vs, rfl, .inl (SqL.of q), fun l hl => Post.new S p hl (new_lst S hl rs z)⟩
  case tup ds =>
    obtain ⟨a, vs, rfl, q, rs, z⟩ := rep_tup.mp r
    exact ⟨a, vs, rfl, .inr q, fun l hl => Post.new S p hl (new_lst S hl rs z)⟩
  case loc n =>
    simp only [fList] at p
    split at p
    · rename_i ds hn
      obtain ⟨a, vs, rfl, q, rs, z, _⟩ := loc_lst S hn r
      exact ⟨a, vs, rfl, .inl (SqL.of q), fun l hl => Post.new S p hl (new_lst S hl rs z)⟩
    · exact False.elim p
theorem toString_natT (n : Nat) : Str.ofString (toString ((n : Nat) : Int)) = toS (natT n) := SX.num_S n
theorem toString_intT (i : Int) : Str.ofString (toString i) = toS (intT i) := by
  unfold intT
  by_cases h : i < 0
  · rw [if_pos h]
    obtain ⟨n, rfl⟩ := Int.exists_eq_neg_ofNat (Int.le_of_lt h)
    have hn : n ≠ 0 := by omega
    have e : (-(n : Int)).natAbs = n := by omega
    rw [e]
    obtain ⟨m, rfl⟩ := Nat.exists_eq_succ_of_ne_zero hn
    have e2 : toString (-((m + 1 : Nat) : Int)) = "-" ++ toString ((m + 1 : Nat) : Int) := rfl
    rw [e2]
    have e3 := toString_natT (m + 1)
    rw [← toS_S] at e3 ⊢
    have e4 := toS_inj.mp e3
    have e5 : S ("-" ++ toString ((m + 1 : Nat) : Int)) = 45 :: S (toString ((m + 1 : Nat) : Int)) := by
      unfold S
      simp
    rw [e5, e4]
  · rw [if_neg h]
    have e : i = ((i.natAbs : Nat) : Int) := by omega
    have e3 := toString_natT i.natAbs
    rw [← e] at e3
    exact e3
theorem natT_codes (n : Nat) : ∀ q ∈ natT n, 48 ≤ q ∧ q ≤ 57 := TL.numL_digits n
theorem natT_len {n k : Nat} (hk : 0 < k) (h : n < 10 ^ k) : (natT n).length ≤ k := TL.numL_len hk h
theorem two_ten : (2 : Nat) ^ 1900 < 10 ^ 700 := by decide +kernel
def rStrAll : List V → Hp → VK → Prop := fun xs H Q => (∃ i, xs = [.int i] ∧ i.natAbs.log2 < 1920 ∧ Q (.str (toString i)) H) ∨ ∃ a, xs = [.str a] ∧ Q (.str a) H
theorem call_strAll : CallR X (.type "str") rStrAll := by
  intro pins s σ H xs us Q I r h
  rcases h with h | h
  · exact call_str_int pins s σ H xs us Q I r h
  · exact SkE.call_str_str pins s σ H xs us Q I r h
theorem calD_str : CalD X W rStrAll bStr := calD1 fun c d v σ Q S r p => by
  cases d <;> first | exact False.elim p | skip
  case int i =>
    by_cases z : i.natAbs < 2 ^ 1900
    · simp only [fStr, if_pos z] at p
      refine .inl ⟨i, by rw [rep_int.mp r], ?_, ?_⟩
      · by_cases h0 : i.natAbs = 0
        · rw [h0]
          decide
        · have := (Nat.log2_lt h0).mpr (Nat.lt_of_lt_of_le z (Nat.pow_le_pow_right (by decide) (by decide : 1900 ≤ 1920)))
          exact this
      · refine Post.at S p (rep_str.mpr ⟨?_, ?_, ?_⟩)
        · exact congrArg V.str (toString_intT i)
        · have h1 := natT_len (n := i.natAbs) (k := 700) (by decide) (Nat.lt_trans z two_ten)
          unfold intT
          split
          · rw [List.length_cons]
            exact Nat.le_trans (Nat.succ_le_succ h1) (by decide)
          · exact Nat.le_trans h1 (by decide)
        · intro q hq
          unfold intT at hq
          split at hq
          · rcases List.mem_cons.mp hq with rfl | hq
            · decide
            · have := natT_codes _ q hq
              omega
          · have := natT_codes _ q hq
            omega
    · simp only [fStr, if_neg z] at p
      exact False.elim p
  case str t => exact .inr ⟨toS t, by rw [(rep_str.mp r).1], Post.at S p (by rw [← (rep_str.mp r).1]; exact r)⟩
def rIntAll : List V → Hp → VK → Prop := fun xs H Q => ((∃ i, xs = [.int i] ∧ Q (.int i) H) ∨ ∃ k, xs = [.bl k] ∧ Q (.int (if k then 1 else 0)) H) ∨ ∃ a n, xs = [.str a] ∧ PySem.intText? a = some n ∧ a.length ≤ 640 ∧ Q (.int n) H
theorem call_intAll : CallR X (.type "int") rIntAll := by
  intro pins s σ H xs us Q I r h
  rcases h with h | h
  · exact call_int1 pins s σ H xs us Q I r h
  · exact call_int_str pins s σ H xs us Q I r h
theorem calD_int : CalD X W rIntAll bInt := calD1 fun c d v σ Q S r p => by
  cases d <;> first | exact False.elim p | skip
  case int i => exact .inl (.inl ⟨i, by rw [rep_int.mp r], Post.at S p (rep_int.mpr rfl)⟩)
  case bl k => exact .inl (.inr ⟨k, by rw [rep_bl.mp r], Post.at S p (rep_int.mpr rfl)⟩)
  case str t =>
    by_cases z : t ≠ [] ∧ t.length ≤ 640 ∧ t.all (fun c => decide (48 ≤ c ∧ c ≤ 57)) = true
    · simp only [fInt, if_pos z] at p
      obtain ⟨z1, z2, z3⟩ := z
      have hd : NumText.AllDigits t := fun q hq => by simpa using List.all_eq_true.mp z3 q hq
      refine .inr ⟨toS t, _, by rw [(rep_str.mp r).1], SX.int_S (by simpa using z3) z1 (by omega), by rw [toS_length]; exact z2, ?_⟩
      refine Post.at S p (rep_int.mpr ?_)
      have := TL.fold_digits t 0 hd
      unfold NumText.digitsVal
      rw [← this]
      rfl
    · simp only [fInt, if_neg z] at p
      exact False.elim p
end
end Dn

/-! text DnJ -/
set_option maxHeartbeats 1000000
set_option Elab.async false
set_option linter.all false
set_option maxRecDepth 100000
set_option autoImplicit false
/-! Dn, part J: methods of built-in types, repr, stores, new dicts and instances. -/
namespace Dn
open PySem L2
section
variable {X : Cx} {W : WX}
/-! ### methods of built-in types -/
def MtD (X : Cx) (W : WX) (r : V → List V → Hp → VK → Prop) (F : D → List D → Hh → R D) : Prop := ∀ (c : Cz) (d : D) (ds : List D) (v : V) (vs : List V) (σ : St) (Q : VK), simH X c → rep X c d v → repL X c ds vs → PostX X W (rep X) c σ Q (F d ds c.h) → r v vs c.H Q
theorem tyV_of {T : String} {c : Cz} {d : D} {v : V} (S : simH X c) (r : rep X c d v) (e : tyD T d c.h = true) : tyV X.K T v c.H := by
  cases d <;> simp only [tyD] at e <;> first | (cases e; done) | skip
  case str t =>
    rw [(rep_str.mp r).1]
    exact beq_iff_eq.mp e
  case lst ds =>
    obtain ⟨a, vs, rfl, q, _⟩ := rep_lst.mp r
    exact .inl ⟨beq_iff_eq.mp e, vs, SqL.of q⟩
  case dic ks ds =>
    unfold rep Rep at r
    obtain ⟨a, vs, rfl, l, rs, q, _⟩ := r
    exact .inr (.inr (.inl ⟨beq_iff_eq.mp e, .inl ⟨_, q⟩⟩))
  case loc n =>
    split at e
    · rename_i ds hn
      obtain ⟨a, vs, rfl, q, _⟩ := loc_lst S hn r
      exact .inl ⟨beq_iff_eq.mp e, vs, SqL.of q⟩
    · rename_i ks ds hn
      obtain ⟨a, vs, rfl, q, _⟩ := loc_dic S hn r
      exact .inr (.inr (.inl ⟨beq_iff_eq.mp e, .inl ⟨_, q⟩⟩))
    · cases e
theorem den_bm {o e : Expr} {es : List Expr} {fo : DE} {fs : DA} {name : Str} {apos cpos : Pos} {T id : String} {r : V → List V → Hp → VK → Prop} {F : D → List D → Hh → R D} (pa : PlainAttrs T) (slot : Slot T name id) (hty : typeOf (.builtin id) = pure (.type "method_descriptor")) (hm : MtR X id r) (hf : MtD X W r F) (ho : Den X W o fo) (ha : DenA X W (e :: es) fs)
    (hbase : attributeBase o name X.env (eval o X.env) = eval o X.env := by rfl)
    (hfew : ((backTo cpos (starEach (e :: es) X.env)).all (fun x => !x.1) && (backToKw cpos (keywordEach [] X.env)).all (fun x => x.1.isSome)
      && decide ((e :: es).length + ([] : List Keyword).length + (if ([] : List Keyword).isEmpty then 0 else 1) < 30)) = true := by rfl)
    (hline : (apos.endLine == cpos.line) = true := by rfl) (hs : starEach (e :: es) X.env = (false, eval e X.env) :: starEach es X.env := by rfl) (hplain : (backTo cpos (starEach es X.env)).any (·.1) = false := by rfl) :
    Den X W (.Call (.Attribute o name apos) (e :: es) [] cpos) (eBM T F fo fs) := by
  refine PE.weak (pe_bm pa slot hty hm ho ha hbase hfew hline hs hplain) fun σ H Q t => ?_
  refine tG.bind t fun env d h1 ms1 H1 v S1 SE1 rd p => ?_
  by_cases z : tyD T d h1 = true
  · rw [if_pos z] at p
    refine ⟨tyV_of (c := ⟨ms1, h1, H1⟩) S1 rd z, tG.of (c := ⟨ms1, h1, H1⟩) S1 SE1 (Post.bind S1 p fun ds h2 ms2 H2 vs E2 S2 rl p2 => ?_)⟩
    exact hf ⟨ms2, h2, H2⟩ d ds v vs σ Q S2 (Rep.ext S1 E2 _ _ rd) rl p2
  · rw [if_neg z] at p
    exact False.elim p
theorem den_bm0 {o : Expr} {fo : DE} {name : Str} {apos cpos : Pos} {T id : String} {r : V → List V → Hp → VK → Prop} {F : D → List D → Hh → R D} (pa : PlainAttrs T) (slot : Slot T name id) (hty : typeOf (.builtin id) = pure (.type "method_descriptor")) (hm : MtR X id r) (hf : MtD X W r F) (ho : Den X W o fo)
    (hbase : attributeBase o name X.env (eval o X.env) = eval o X.env := by rfl) (hline : (apos.endLine == cpos.line) = true := by rfl) :
    Den X W (.Call (.Attribute o name apos) [] [] cpos) (eBM0 T F fo) := by
  refine PE.weak (pe_bm0 pa slot hty hm ho hbase hline) fun σ H Q t => ?_
  refine tG.bind t fun env d h1 ms1 H1 v S1 SE1 rd p => ?_
  by_cases z : tyD T d h1 = true
  · rw [if_pos z] at p
    exact ⟨tyV_of (c := ⟨ms1, h1, H1⟩) S1 rd z, hf ⟨ms1, h1, H1⟩ d [] v [] σ Q S1 rd RepL.nil p⟩
  · rw [if_neg z] at p
    exact False.elim p
theorem mtD0 {r : V → List V → Hp → VK → Prop} {f : D → Hh → R D} (h : ∀ (c : Cz) (d : D) (v : V) (σ : St) (Q : VK), simH X c → rep X c d v → PostX X W (rep X) c σ Q (f d c.h) → r v [] c.H Q) : MtD X W r (m0 f) := by
  intro c d ds v vs σ Q S rd rl p
  cases ds with
  | nil =>
    rw [RepL.of_nil rl]
    exact h c d v σ Q S rd p
  | cons _ _ => exact False.elim p
theorem mtD1 {r : V → List V → Hp → VK → Prop} {f : D → D → Hh → R D} (h : ∀ (c : Cz) (d e : D) (v u : V) (σ : St) (Q : VK), simH X c → rep X c d v → rep X c e u → PostX X W (rep X) c σ Q (f d e c.h) → r v [u] c.H Q) : MtD X W r (m1 f) := by
  intro c d ds v vs σ Q S rd rl p
  cases ds with
  | nil => exact False.elim p
  | cons e ds =>
    cases ds with
    | nil =>
      obtain ⟨u, rfl, r1⟩ := repL1 rl
      exact h c d e v u σ Q S rd r1 p
    | cons _ _ => exact False.elim p
theorem mtD2 {r : V → List V → Hp → VK → Prop} {f : D → D → D → Hh → R D} (h : ∀ (c : Cz) (d e g : D) (v u z : V) (σ : St) (Q : VK), simH X c → rep X c d v → rep X c e u → rep X c g z → PostX X W (rep X) c σ Q (f d e g c.h) → r v [u, z] c.H Q) : MtD X W r (m2 f) := by
  intro c d ds v vs σ Q S rd rl p
  cases ds with
  | nil => exact False.elim p
  | cons e ds =>
    cases ds with
    | nil => exact False.elim p
    | cons g ds =>
      cases ds with
      | nil =>
        obtain ⟨u, z, rfl, r1, r2⟩ := repL2 rl
        exact h c d e g v u z σ Q S rd r1 r2 p
      | cons _ _ => exact False.elim p
/-- a list of the small heap is changed -/
theorem put_lst {c : Cz} {n : Nat} {ds es : List D} {a : Addr} {us : List V} (S : simH X c) (hn : c.h[n]? = some (some (.lst ds))) (ha : c.ms[n]? = some a) (rs : repL X c es us) (z : es.length ≤ big) :
    Ext c ⟨c.ms, c.h.set n (some (.lst es)), upd c.H a (.lst us)⟩ ∧ simH X ⟨c.ms, c.h.set n (some (.lst es)), upd c.H a (.lst us)⟩ := by
  have E := Ext.put (oo := O.lst es) (u := .lst us) S hn ha
  exact ⟨E, SimH.put S hn ha ⟨us, upd_same, RepL.ext S E _ _ rs, z⟩⟩
theorem mtD_append : MtD X W rAppend mAppend := mtD1 fun c d e v u σ Q S rd re p => by
  cases d <;> first | exact False.elim p | skip
  case loc n =>
    simp only [fAppend] at p
    split at p
    · rename_i ds hn
      by_cases z : ds.length < big
      · rw [if_pos z] at p
        obtain ⟨a, vs, rfl, q, rs, zz, ea⟩ := loc_lst S hn rd
        have rs2 : repL X c (ds ++ [e]) (vs ++ [u]) := RepL.append rs (RepL.cons re RepL.nil)
        obtain ⟨E, S2⟩ := put_lst S hn ea rs2 (by simp; omega)
        exact ⟨a, vs, u, rfl, rfl, q, by rw [← repL_len rs, ← big_eq]; exact z, p c.ms _ .non E S2 (rep_non.mpr rfl)⟩
      · rw [if_neg z] at p
        exact False.elim p
    · exact False.elim p
theorem mtD_extend : MtD X W rExtend mExtend := mtD1 fun c d e v u σ Q S rd re p => by
  cases d <;> first | exact False.elim p | skip
  case loc n =>
    simp only [fExtend] at p
    split at p
    · rename_i ds hn
      cases e <;> first | exact False.elim p | skip
      case lst es =>
        by_cases z : ds.length + es.length ≤ big
        · simp only [if_pos z] at p
          obtain ⟨a, vs, rfl, q, rs, zz, ea⟩ := loc_lst S hn rd
          obtain ⟨b, us, rfl, q2, _, rs2, _⟩ := rep_lst.mp re
          have rs3 : repL X c (ds ++ es) (vs ++ us) := RepL.append rs rs2
          obtain ⟨E, S2⟩ := put_lst S hn ea rs3 (by simpa using z)
          exact ⟨a, b, vs, us, rfl, rfl, q, q2, by rw [← repL_len rs, ← repL_len rs2, ← big_eq]; exact z, p c.ms _ .non E S2 (rep_non.mpr rfl)⟩
        · simp only [if_neg z] at p
          exact False.elim p
    · exact False.elim p
theorem RepL.dropLast {c : Cz} {ds : List D} {vs : List V} (r : repL X c ds vs) : repL X c ds.dropLast vs.dropLast := by
  rw [List.dropLast_eq_take, List.dropLast_eq_take, repL_len r]
  exact RepL.take _ r
theorem mtD_pop : MtD X W rPop mPop := mtD0 fun c d v σ Q S rd p => by
  cases d <;> first | exact False.elim p | skip
  case loc n =>
    simp only [fPop] at p
    split at p
    · rename_i ds hn
      cases e : ds[ds.length - 1]? with
      | none =>
        rw [e] at p
        exact False.elim p
      | some y =>
        rw [e] at p
        obtain ⟨a, vs, rfl, q, rs, zz, ea⟩ := loc_lst S hn rd
        obtain ⟨u, hu, ru⟩ := RepL.get rs e
        obtain ⟨E, S2⟩ := put_lst S hn ea (RepL.dropLast rs) (by simp; omega)
        exact ⟨a, vs, u, rfl, rfl, q, by rw [← repL_len rs]; exact hu, p c.ms _ u E S2 (Rep.ext S E _ _ ru)⟩
    · exact False.elim p
theorem toS_SX (t : Tx) : toS t = SX.S t := rfl
theorem joinT_eq (sep : Tx) : ∀ ts : List Tx, joinT sep ts = TL.joinL sep ts
  | [] => rfl
  | [t] => rfl
  | t :: u :: r => by
    show t ++ sep ++ joinT sep (u :: r) = t ++ (sep ++ TL.joinL sep (u :: r))
    rw [joinT_eq sep (u :: r), List.append_assoc]
theorem txs_of {c : Cz} : ∀ {ds : List D} {vs : List V} {ts : List Tx}, txsOf ds = some ts → repL X c ds vs → vs = (ts.map toS).map V.str ∧ ∀ t ∈ ts, t.length ≤ big ∧ ∀ q ∈ t, q < 1114112
  | [], vs, ts, e, r => by
    cases e
    rw [RepL.of_nil r]
    exact ⟨rfl, fun t ht => by simp at ht⟩
  | d :: ds, vs, ts, e, r => by
    obtain ⟨v, us, rfl, r1, r2⟩ := RepL.of_cons r
    cases d <;> simp only [txsOf] at e <;> first | (cases e; done) | skip
    case str t =>
      obtain ⟨ts', e1, rfl⟩ := Option.map_eq_some_iff.mp e
      obtain ⟨h1, h2⟩ := txs_of e1 r2
      obtain ⟨h3, h4, h5⟩ := rep_str.mp r1
      refine ⟨by rw [h1, h3]; rfl, fun u hu => ?_⟩
      rcases List.mem_cons.mp hu with rfl | hu
      · exact ⟨h4, h5⟩
      · exact h2 u hu
theorem joinT_codes {sep : Tx} (hs : ∀ q ∈ sep, q < 1114112) : ∀ {ts : List Tx}, (∀ t ∈ ts, ∀ q ∈ t, q < 1114112) → ∀ q ∈ joinT sep ts, q < 1114112
  | [], _, q, hq => by simp [joinT] at hq
  | [t], h, q, hq => h t (List.mem_singleton.mpr rfl) q hq
  | t :: u :: r, h, q, hq => by
    have hq2 : q ∈ t ++ sep ++ joinT sep (u :: r) := hq
    rcases List.mem_append.mp hq2 with hq2 | hq2
    · rcases List.mem_append.mp hq2 with hq2 | hq2
      · exact h t (List.mem_cons_self) q hq2
      · exact hs q hq2
    · exact joinT_codes hs (fun v hv => h v (List.mem_cons_of_mem _ hv)) q hq2
theorem joinT_len (sep : Tx) : ∀ ts : List Tx, (joinT sep ts).length ≤ (ts.map List.length).sum + ts.length * sep.length
  | [] => by simp [joinT]
  | [t] => by simp [joinT]
  | t :: u :: r => by
    have ih := joinT_len sep (u :: r)
    show (t ++ sep ++ joinT sep (u :: r)).length ≤ _
    rw [List.length_append, List.length_append, List.map_cons, List.sum_cons, List.length_cons, Nat.succ_mul]
    omega
theorem mtD_join : MtD X W (fun x xs H Q => ∃ a p, ∃ ys : List Str, x = .str a ∧ xs = [.ref p] ∧ (SqL X.K H p (ys.map V.str) ∨ SqT X.K H p (ys.map V.str)) ∧
    (ys.map (·.length)).sum + ys.length * a.length ≤ 16777216 ∧ Q (.str (Txt.join a ys)) H) mJoin := mtD1 fun c d e v u σ Q S rd re p => by
  cases d <;> first | exact False.elim p | skip
  case str s =>
    cases e <;> first | exact False.elim p | skip
    case lst ds =>
      simp only [fJoin] at p
      cases e1 : txsOf ds with
      | none =>
        rw [e1] at p
        exact False.elim p
      | some ts =>
        rw [e1] at p
        by_cases z : (ts.map List.length).sum + ts.length * s.length ≤ big
        · simp only [if_pos z] at p
          obtain ⟨h3, h4, h5⟩ := rep_str.mp rd
          obtain ⟨b, us, rfl, q2, _, rs2, _⟩ := rep_lst.mp re
          obtain ⟨h1, h2⟩ := txs_of e1 rs2
          subst h1
          have el : (ts.map toS).map (·.length) = ts.map List.length := by
            rw [List.map_map]
            exact List.map_congr_left fun t _ => toS_length t
          refine ⟨toS s, b, ts.map toS, h3, rfl, .inl (SqL.of q2), ?_, ?_⟩
          · rw [el, List.length_map, toS_length]
            exact z
          · refine Post.at S p (rep_str.mpr ⟨?_, ?_, ?_⟩)
            · rw [joinT_eq]
              exact congrArg V.str (SX.join_S s ts)
            · exact Nat.le_trans (joinT_len s ts) z
            · exact joinT_codes h5 fun t ht => (h2 t ht).2
        · simp only [if_neg z] at p
          exact False.elim p
theorem findC_spec (c : Nat) : ∀ (t : Tx) (k n : Nat), (findC c t k n = -1 ∧ ∀ j, j < t.length → n ≤ k + j → t.getD j 0 ≠ c) ∨ ∃ j, findC c t k n = ((k + j : Nat) : Int) ∧ j < t.length ∧ n ≤ k + j ∧ t.getD j 0 = c ∧ ∀ i, i < j → n ≤ k + i → t.getD i 0 ≠ c
  | [], k, n => .inl ⟨rfl, fun j hj => by simp at hj⟩
  | d :: r, k, n => by
    by_cases h : n ≤ k ∧ d = c
    · refine .inr ⟨0, ?_, by simp, by simpa using h.1, by simpa using h.2, fun i hi => by omega⟩
      show (if n ≤ k ∧ d = c then (k : Int) else _) = _
      rw [if_pos h]
      rfl
    · have e : findC c (d :: r) k n = findC c r (k + 1) n := by
        show (if n ≤ k ∧ d = c then (k : Int) else _) = _
        rw [if_neg h]
      rcases findC_spec c r (k + 1) n with ⟨h1, h2⟩ | ⟨j, h1, h2, h3, h4, h5⟩
      · refine .inl ⟨e.trans h1, fun j hj hn => ?_⟩
        cases j with
        | zero => exact fun z => h ⟨by omega, by simpa using z⟩
        | succ j =>
          have := h2 j (by simpa using hj) (by omega)
          simpa using this
      · refine .inr ⟨j + 1, by rw [e, h1]; congr 1; omega, by simpa using h2, by omega, by simpa using h4, fun i hi hn => ?_⟩
        cases i with
        | zero => exact fun z => h ⟨by omega, by simpa using z⟩
        | succ i =>
          have := h5 i (by omega) (by omega)
          simpa using this
theorem find_eq (t : Tx) (c : Nat) (i : Int) (h0 : 0 ≤ i) (h1 : i ≤ t.length) : Txt.find3 (toS t) ⟨#[c]⟩ i = findC c t 0 i.toNat := by
  have hf : PySem.fromIndex (toS t).length i = i.toNat := by
    unfold PySem.fromIndex
    rw [if_neg (by omega), Int.max_eq_right h0]
  have hg : ∀ v, (toS t).cps.getD v 0 = t.getD v 0 := fun v => by
    show t.toArray.getD v 0 = _
    simp [Array.getD_eq_getD_getElem?]
  have hs := PySem.StrLaws.find3_spec (toS t) c i
  rw [hf, toS_length] at hs
  rcases hs with ⟨e1, e2⟩ | ⟨k, e1, k1, k2, k3, k4⟩
  · rcases findC_spec c t 0 i.toNat with ⟨f1, f2⟩ | ⟨j, f1, f2, f3, f4, f5⟩
    · rw [e1, f1]
    · exact absurd ((hg j).trans f4) (e2 j (by omega) f2)
  · rw [hg] at k3
    rcases findC_spec c t 0 i.toNat with ⟨f1, f2⟩ | ⟨j, f1, f2, f3, f4, f5⟩
    · exact absurd k3 (f2 k k2 (by omega))
    · rw [e1, f1]
      have : k = j := by
        rcases Nat.lt_trichotomy k j with z | z | z
        · exact absurd k3 (f5 k z (by omega))
        · exact z
        · exact absurd ((hg j).trans f4) (k4 j (by omega) z)
      subst this
      simp
theorem mtD_find : MtD X W (fun x xs H Q => ∃ (a b : Str) (i : Int), x = .str a ∧ xs = [.str b, .int i] ∧ Q (.int (Txt.find3 a b i)) H) mFind := mtD2 fun c d e g v u z σ Q S rd re rg p => by
  cases d <;> first | exact False.elim p | skip
  case str t =>
    cases e <;> first | exact False.elim p | skip
    case str s =>
      cases g <;> first | (simp only [fFind] at p; split at p <;> exact False.elim p; done) | skip
      case int i =>
        simp only [fFind] at p
        split at p
        · rename_i q hq
          cases hq
          by_cases h : 0 ≤ i ∧ i ≤ (t.length : Int)
          · rw [if_pos h] at p
            refine ⟨toS t, toS [q], i, (rep_str.mp rd).1, by rw [(rep_str.mp re).1, rep_int.mp rg], ?_⟩
            refine Post.at S p (rep_int.mpr ?_)
            exact congrArg V.int (find_eq t q i h.1 h.2)
          · rw [if_neg h] at p
            exact False.elim p
        · exact False.elim p
end
end Dn

/-! text DnK -/
set_option maxHeartbeats 1000000
set_option Elab.async false
set_option linter.all false
set_option maxRecDepth 100000
set_option autoImplicit false
/-! Dn, part K: repr, stores, new dicts and instances, new lists by +, a target with a star. -/
namespace Dn
open PySem L2
section
variable {X : Cx} {W : WX}
/-! ### repr of data -/
/-- the text that repr makes -/
def reprT (d : D) : Tx := (toPy d).shown.cps.toList
def isSeqD : D → Bool
  | .tup _ => true
  | .lst _ => true
  | _ => false
def fRepr : D → Hh → R D := fun d h => if isData 40 d = true ∧ isSeqD d = true ∧ (toPy d).showable = true ∧ (reprT d).length ≤ big ∧ (reprT d).all (fun q => decide (q < 1114112)) = true then .ok (.str (reprT d)) h else .no
def bRepr : Fn := on1 fRepr
def rReprD (X : Cx) : List V → Hp → VK → Prop := fun xs H Q => ∃ (v : V) (d : PyData), xs = [v] ∧ (∃ a, v = .ref a) ∧ Dp X.K H v d ∧ d.canLay0 = true ∧ d.depth ≤ 40 ∧ d.hasDict = false ∧ d.showable = true ∧ d.shown.length ≤ sizeLine ∧ Q (.str d.shown) H
theorem call_reprD (hu : X.A.units + 60 < cLine) (hG : X.A.guards = some []) : CallR X (.builtin "repr") (rReprD X) := by
  intro pins s σ H xs us Q I r h
  obtain ⟨v, d, rfl, ⟨a, rfl⟩, hd, hl, hdep, hnd, hs, hz, q⟩ := h
  obtain ⟨u, rfl, rx⟩ := vals1 r
  have eu : u = Value.ref a := rx
  subst eu
  obtain ⟨as, rr⟩ := Dp.reads I d _ _ hd rx
  exact PySem.repr_of_reads' rr hs (PyData.noDict_hsm hnd) hG (by omega) (fun _ _ e => e) (fun h' w' tk hk => ⟨.str d.shown, H, I.kept hk, ⟨_, rfl⟩, q⟩) hz
mutual
theorem noDict_py : ∀ d : D, (toPy d).hasDict = false
  | .non => rfl
  | .bl _ => rfl
  | .int _ => rfl
  | .str _ => rfl
  | .ty _ => rfl
  | .glb _ => rfl
  | .scr _ => rfl
  | .loc _ => rfl
  | .dic _ _ => rfl
  | .tab _ _ => rfl
  | .tup ds => noDicts_py ds
  | .lst ds => noDicts_py ds
theorem noDicts_py : ∀ ds : List D, PyData.hasDictAll (toPys ds) = false
  | [] => rfl
  | d :: ds => by
    show ((toPy d).hasDict || PyData.hasDictAll (toPys ds)) = false
    rw [noDict_py d, noDicts_py ds]
    rfl
end
theorem calD_repr : CalD X W (rReprD X) bRepr := calD1 fun c d v σ Q S r p => by
  unfold fRepr at p
  by_cases z : isData 40 d = true ∧ isSeqD d = true ∧ (toPy d).showable = true ∧ (reprT d).length ≤ big ∧ (reprT d).all (fun q => decide (q < 1114112)) = true
  · rw [if_pos z] at p
    obtain ⟨z1, z2, z3, z4, z5⟩ := z
    obtain ⟨h1, h2, h3⟩ := dp_of S 40 d v z1 r
    refine ⟨v, toPy d, rfl, ?_, h1, h2, h3, noDict_py d, z3, ?_, ?_⟩
    · cases d <;> first | (cases z2; done) | skip
      · obtain ⟨a, _, e, _⟩ := rep_tup.mp r
        exact ⟨a, e⟩
      · obtain ⟨a, _, e, _⟩ := rep_lst.mp r
        exact ⟨a, e⟩
    · rw [← big_eq]
      have : (toPy d).shown.length = (reprT d).length := by
        unfold reprT
        simp [Str.length]
      rw [this]
      exact z4
    · refine Post.at S p (rep_str.mpr ⟨?_, z4, fun q hq => by simpa using List.all_eq_true.mp z5 q hq⟩)
      rfl
  · rw [if_neg z] at p
    exact False.elim p

/-! ### d[k] = e -/
theorem dput_put (k : Ky) (y : V) (d : D) : ∀ (ks : List Ky) (ds : List D) (vs : List V), ks.length = ds.length → ks.length = vs.length → ∃ us, putK ((ks.map kyK).zip vs) (kyK k) y = ((dput k d ks ds).1.map kyK).zip us ∧ (dput k d ks ds).1.length = us.length ∧
    ∀ {c : Cz}, repL X c ds vs → rep X c d y → repL X c (dput k d ks ds).2 us := by
  intro ks ds vs h1 h2
  have hany : (((ks.map kyK).zip vs).any fun kv => decide (kv.1 = kyK k)) = ks.any fun q => decide (q = k) := by
    clear h1
    induction ks generalizing vs with
    | nil => simp
    | cons q ks ih =>
      cases vs with
      | nil => simp at h2
      | cons v vs =>
        simp only [List.map_cons, List.zip_cons_cons, List.any_cons, kyK_inj]
        rw [ih vs (by simpa using h2)]
  unfold dput putK
  rw [hany]
  by_cases z : (ks.any fun q => decide (q = k)) = true
  · rw [if_pos z, if_pos z]
    clear z hany
    refine ⟨List.zipWith (fun q v => if q = k then y else v) ks vs, ?_, by simp; omega, ?_⟩
    · induction ks generalizing vs ds with
      | nil => simp
      | cons q ks ih =>
        cases vs with
        | nil => simp at h2
        | cons v vs =>
          cases ds with
          | nil => simp at h1
          | cons e ds =>
            have := ih ds vs (by simpa using h1) (by simpa using h2)
            simp only [List.map_cons, List.zip_cons_cons, List.zipWith_cons_cons, kyK_inj]
            rw [this]
            by_cases e2 : q = k <;> simp [e2]
    · intro c r rd
      induction ks generalizing vs ds with
      | nil =>
        cases ds with
        | nil => simpa using RepL.nil
        | cons _ _ => simp at h1
      | cons q ks ih =>
        cases ds with
        | nil => simp at h1
        | cons e ds =>
          obtain ⟨v, vs', rfl, r1, r2⟩ := RepL.of_cons r
          simp only [List.zipWith_cons_cons]
          refine RepL.cons ?_ (ih ds vs' (by simpa using h1) (by simpa using h2) r2)
          by_cases e2 : q = k
          · rw [if_pos e2, if_pos e2]
            exact rd
          · rw [if_neg e2, if_neg e2]
            exact r1
  · rw [if_neg z, if_neg z]
    refine ⟨vs ++ [y], ?_, by simp; omega, fun r rd => RepL.append r (RepL.cons rd RepL.nil)⟩
    rw [List.map_append, List.zip_append (by simpa using h2)]
    rfl
theorem setK_of {c : Cz} {x k d : D} {v y u : V} {σ : St} {T : Ends} {env : Env} (S : simH X c) (SE : simE X c env σ) (rx : rep X c x v) (rk : rep X c k y) (rd : rep X c d u) (p : PostS X W c T ((setK x k d c.h).thenS env fun _ h => .nx env h)) :
    ∃ a H4, v = .ref a ∧ DPut c.H a y u H4 ∧ T.nx σ H4 := by
  cases x <;> first | exact False.elim p | skip
  case loc n =>
    simp only [setK] at p
    split at p
    · rename_i ks ds hn
      cases e : keyD k with
      | none =>
        rw [e] at p
        exact False.elim p
      | some q =>
        rw [e] at p
        simp only at p
        by_cases z : ks.length < big
        · rw [if_pos z] at p
          obtain ⟨a, vs, rfl, qh, l, rs, ea⟩ := loc_dic S hn rx
          obtain ⟨us, e1, e2, e3⟩ := dput_put (X := X) q u d ks ds vs (by rw [repL_len rs]; exact l) l
          have ey := keyD_rep e rk
          subst ey
          refine ⟨a, _, rfl, DPut.k qh (by rw [List.length_zip, List.length_map, ← l, Nat.min_self, ← big_eq]; exact z), ?_⟩
          rw [e1]
          have E := Ext.put (oo := O.dic (dput q d ks ds).1 (dput q d ks ds).2) (u := .dK (((dput q d ks ds).1.map kyK).zip us)) S hn ea
          exact p c.ms _ σ E (SimH.put S hn ea ⟨us, upd_same, e2, e3 (RepL.ext S E _ _ rs) (Rep.ext S E _ _ rd)⟩) (SE.ext S E)
        · rw [if_neg z] at p
          exact False.elim p
    · exact False.elim p
theorem dens_put {o i e : Expr} {fo fi f : DE} {pos pos' : Pos} (hu : X.A.units + 1 < cLine) (ho : Den X W o fo) (hi : Den X W i fi) (he : Den X W e f) (hs : swapsWith e (some (.Subscript o i pos')) pos.line X.env = pure false := by rfl) :
    DenS X W (.Assign [.Subscript o i pos'] e pos) (sPut fo fi f) := by
  refine PS.weak (ps_dput hu ho hi he hs) fun T σ H t => ?_
  obtain ⟨ms, env, hh, S, SE, p⟩ := t
  have p' : PostS X W ⟨ms, hh, H⟩ T (((f env hh).bind fun v h => (fo env h).bind fun x h => (fi env h).bind fun y h => setK x y v h).thenS env fun _ h => .nx env h) := p
  refine ⟨ms, env, hh, S, SE, ?_⟩
  cases e1 : f env hh with
  | exc x h1 =>
    rw [e1] at p'
    exact fun ms' H' cls dd E S' q => p' ms' H' σ cls dd E S' (SE.ext S E) q
  | no => rw [e1] at p'; exact p'
  | ok d h1 =>
    rw [e1] at p'
    intro ms1 H1 u E1 S1 r1
    have SE1 := SE.ext S E1
    have p3 : PostS X W ⟨ms1, h1, H1⟩ T (((fo env h1).bind fun x h => (fi env h).bind fun y h => setK x y d h).thenS env fun _ h => .nx env h) := PostS.ext S E1 p'
    refine ⟨ms1, env, h1, S1, SE1, ?_⟩
    cases e2 : fo env h1 with
    | exc x h2 =>
      rw [e2] at p3
      exact fun ms' H' cls dd E S' q => p3 ms' H' σ cls dd E S' (SE1.ext S1 E) q
    | no => rw [e2] at p3; exact p3
    | ok x h2 =>
      rw [e2] at p3
      intro ms2 H2 v E2 S2 r2
      have SE2 := SE1.ext S1 E2
      have p4 : PostS X W ⟨ms2, h2, H2⟩ T (((fi env h2).bind fun y h => setK x y d h).thenS env fun _ h => .nx env h) := PostS.ext S1 E2 p3
      refine ⟨ms2, env, h2, S2, SE2, ?_⟩
      cases e3 : fi env h2 with
      | exc x h2 =>
        rw [e3] at p4
        exact fun ms' H' cls dd E S' q => p4 ms' H' σ cls dd E S' (SE2.ext S2 E) q
      | no => rw [e3] at p4; exact p4
      | ok k h3 =>
        rw [e3] at p4
        intro ms3 H3 y E3 S3 r3
        exact setK_of (c := ⟨ms3, h3, H3⟩) S3 (SE2.ext S2 E3) (Rep.ext S2 E3 _ _ r2) r3 (Rep.ext S2 E3 _ _ (Rep.ext S1 E2 _ _ r1)) (PostS.ext S2 E3 p4)

/-! ### o.f += e -/
theorem dens_fldadd {o e : Expr} {fo f : DE} {C nm : String} {x : Str} {pos pos' : Pos} (ex : x = Str.ofString nm) (hc : ClsF X.K X.mg C nm) (ho : Den X W o fo) (he : Den X W e f) :
    DenS X W (.AugAssign (.Attribute o x pos') .Add e pos) (sFldAdd C nm fo f) := by
  subst ex
  refine PS.weak (ps_fldaug ho he in_add) fun T σ H t => ?_
  obtain ⟨ms, env, hh, S, SE, p⟩ := t
  have p' : PostS X W ⟨ms, hh, H⟩ T (((fo env hh).bind fun x h => match insOf C x h with
    | some (_, fs, ds) => (match fget nm fs ds with
      | some (.int i) => (f env h).bind fun y h => (match y with
        | .int j => setF C nm x (.int (i + j)) h
        | _ => .no)
      | _ => .no)
    | none => .no).thenS env fun _ h => .nx env h) := p
  refine ⟨ms, env, hh, S, SE, ?_⟩
  cases e1 : fo env hh with
  | exc x h1 =>
    rw [e1] at p'
    exact fun ms' H' cls dd E S' q => p' ms' H' σ cls dd E S' (SE.ext S E) q
  | no => rw [e1] at p'; exact p'
  | ok d h1 =>
    rw [e1] at p'
    intro ms1 H1 v E1 S1 r1
    have SE1 := SE.ext S E1
    have p3 := PostS.ext S E1 p'
    simp only [R.bind_ok] at p3
    cases e2 : insOf C d h1 with
    | none =>
      rw [e2] at p3
      exact False.elim p3
    | some q =>
      obtain ⟨n, fs, ds⟩ := q
      rw [e2] at p3
      simp only at p3
      obtain ⟨rfl, hn, a, Ca, dx, vs, ea, rfl, q1, q2, l, rs⟩ := insOf_at (c := ⟨ms1, h1, H1⟩) S1 e2 r1
      cases e3 : fget nm fs ds with
      | none =>
        rw [e3] at p3
        exact False.elim p3
      | some g =>
        rw [e3] at p3
        cases g <;> first | exact False.elim p3 | skip
        case int i =>
          obtain ⟨w0, ew, rw0⟩ := (fget_zip (X := X) (c := ⟨ms1, h1, H1⟩) nm rs).2 _ e3
          rw [rep_int.mp rw0] at ew
          refine ⟨a, Ca, dx, _, .int i, rfl, q2, (hc Ca q1).1, (hc Ca q1).2, ew, ⟨ms1, env, h1, S1, SE1, ?_⟩⟩
          cases e4 : f env h1 with
          | exc x h2 =>
            rw [e4] at p3
            exact fun ms' H' cls dd E S' q => p3 ms' H' σ cls dd E S' (SE1.ext S1 E) q
          | no => rw [e4] at p3; exact p3
          | ok y h2 =>
            rw [e4] at p3
            cases y <;> first | exact (fun ms2 H2 y E2 S2 r2 => False.elim p3) | skip
            case int j =>
              intro ms2 H2 y E2 S2 r2
              have p5 : PostS X W ⟨ms2, h2, H2⟩ T ((setF C nm (.loc n) (.int (i + j)) h2).thenS env fun _ h => .nx env h) := PostS.ext S1 E2 p3
              obtain ⟨a2, Ca2, dx2, fs2, e5, e6, e7, e8, e9, e10⟩ := setF_of (c := ⟨ms2, h2, H2⟩) (u := .int (i + j)) S2 (SE1.ext S1 E2) hc (Rep.ext S1 E2 _ _ r1) (rep_int.mpr rfl) p5
              cases e5
              refine ⟨i, j, rfl, rep_int.mp r2, dx2, fs2, ?_, e9, ?_⟩
              · have : Ca2 = Ca := by
                  unfold setF at p5
                  cases e11 : insOf C (.loc n) h2 with
                  | none =>
                    rw [e11] at p5
                    exact False.elim p5
                  | some q =>
                    obtain ⟨n', fs', ds'⟩ := q
                    obtain ⟨_, _, a3, Ca3, dx3, vs3, ea3, ev3, q13, q23, _⟩ := insOf_at (c := ⟨ms2, h2, H2⟩) S2 e11 (Rep.ext S1 E2 _ _ r1)
                    cases ev3
                    rw [q1] at q13
                    cases q13
                    have e62 : H2 a = some (.ins Ca2 dx2 fs2) := e6
                    have q232 : H2 a = some (.ins Ca dx3 _) := q23
                    rw [e62] at q232
                    cases q232
                    rfl
                rw [← this]
                exact e6
              · have : Ca2 = Ca := by
                  unfold setF at p5
                  cases e11 : insOf C (.loc n) h2 with
                  | none =>
                    rw [e11] at p5
                    exact False.elim p5
                  | some q =>
                    obtain ⟨n', fs', ds'⟩ := q
                    obtain ⟨_, _, a3, Ca3, dx3, vs3, ea3, ev3, q13, q23, _⟩ := insOf_at (c := ⟨ms2, h2, H2⟩) S2 e11 (Rep.ext S1 E2 _ _ r1)
                    cases ev3
                    rw [q1] at q13
                    cases q13
                    have e62 : H2 a = some (.ins Ca2 dx2 fs2) := e6
                    have q232 : H2 a = some (.ins Ca dx3 _) := q23
                    rw [e62] at q232
                    cases q232
                    rfl
                rw [← this]
                exact e10
end
end Dn

/-! text DnL -/
set_option maxHeartbeats 1000000
set_option Elab.async false
set_option linter.all false
set_option maxRecDepth 100000
set_option autoImplicit false
/-! Dn, part L: new instances, new dicts, new lists by +, a target with a star, garbage forgotten. -/
namespace Dn
open PySem L2
section
variable {X : Cx} {W : WX}
/-! ### C(e, ..) -/
structure CallN (X : Cx) (x : Str) (C : String) (k n : Nat) (F : Fn) (dd : List D) : Prop where
  ex : x = Str.ofString C ∧ ∃ (Ca f : Addr) (fd : FuncData) (ps : List Str) (dsv : List Value) (dvs : List V), FnDen X.prog X.w X.K X.mg X.base k f fd ps F ∧ X.mg (Str.ofString C) = some (.ref Ca) ∧ Mk X.K Ca f ∧ Binds X.K fd ps dsv ∧ Vals dvs dsv ∧ (∀ c, repL X c dd dvs) ∧ ps.length = n
theorem under_guards (A : Around) (C : Addr) (us : List Value) (kw : List (Str × Value)) : (A.under (.builtin "type.__call__" ⟨.ref C :: us, kw⟩)).guards = A.guards := rfl
theorem new_ins {c : Cz} {C : String} {Ca x dx : Addr} (S : simH X c) (hC : X.mg (Str.ofString C) = some (.ref Ca)) (hx : c.H x = none) (hd : c.H dx = none) (hn : dx ≠ x) :
    Ext c ⟨c.ms ++ [x], c.h ++ [some (.ins C [] [])], upd (upd c.H dx (.own x)) x (.ins Ca dx [])⟩ ∧ simH X ⟨c.ms ++ [x], c.h ++ [some (.ins C [] [])], upd (upd c.H dx (.own x)) x (.ins Ca dx [])⟩ := by
  have hx2 : (upd c.H dx (.own x)) x = none := by
    unfold upd
    rw [if_neg (fun e => hn e.symm)]
    exact hx
  have E1 : Ext c ⟨c.ms, c.h, upd c.H dx (.own x)⟩ := Ext.laid hd
  have S1 : simH X ⟨c.ms, c.h, upd c.H dx (.own x)⟩ := SimH.laid S hd
  have E2 := Ext.new_ (oo := some (O.ins C [] [])) (u := .ins Ca dx []) S1 hx2
  exact ⟨E1.trans S E2, SimH.new_ S1 hx2 ⟨Ca, dx, [], hC, upd_same, rfl, RepL.nil⟩⟩
theorem run_make_den {pins : List (Addr × Obj)} {σ : St} {s : Shared} {Q : VK} {us dsv : List Value} {vs dvs : List V} {ds dd : List D} {c : Cz} {k : Nat} {C : String} {Ca f : Addr} {fd : FuncData} {ps : List Str} {F : Fn} (B : FnDen X.prog X.w X.K X.mg X.base k f fd ps F) (hr : Room (k + 1) X.A) (hG : X.A.guards = some [])
    (M : Mk X.K Ca f) (hC : X.mg (Str.ofString C) = some (.ref Ca)) (hb : Binds X.K fd ps dsv) (hd : Vals dvs dsv) (hdd : ∀ c, repL X c dd dvs) (tk : Takes X W) (I : Inv X pins σ c.H s) (r : Vals vs us) (S : simH X c) (rl : repL X c ds vs) (hl : ds.length + dd.length + 1 = ps.length)
    (p : PostX X W (rep X) c σ Q ((F (.loc c.h.length :: (ds ++ dd)) (c.h ++ [some (.ins C [] [])])).bind fun d h' => (match d with
      | .non => .ok (.loc c.h.length) h'
      | _ => .no))) : wpAny (model X.prog X.w) X.A (call (.ref Ca) us) (EP X pins σ Q) X.xe s := by
  have I2 := Inv.made (C := Ca) I
  obtain ⟨E, S2⟩ := new_ins (C := C) (Ca := Ca) (x := s.heap.objs.size + 1) (dx := s.heap.objs.size) S hC (I.hok.fresh (Nat.le_succ _)) (I.hok.fresh (Nat.le_refl _)) (Nat.ne_of_lt (Nat.lt_succ_self _))
  have l1 := repL_len rl
  have l2 := repL_len (hdd c)
  have r2 : Vals (V.ref (s.heap.objs.size + 1) :: (vs ++ dvs)) (Value.ref (s.heap.objs.size + 1) :: (us ++ dsv)) := .cons rfl (r.append hd)
  have hlen : (V.ref (s.heap.objs.size + 1) :: (vs ++ dvs)).length = ps.length := by
    rw [List.length_cons, List.length_append]
    omega
  have hlu : (Value.ref (s.heap.objs.size + 1) :: us ++ dsv).length = ps.length := by
    have := r2.length
    rw [hlen] at this
    exact this.symm
  have L : c.ms.length = c.h.length := S.len
  have rn : rep X ⟨c.ms ++ [s.heap.objs.size + 1], c.h ++ [some (.ins C [] [])], upd (upd c.H s.heap.objs.size (.own (s.heap.objs.size + 1))) (s.heap.objs.size + 1) (.ins Ca s.heap.objs.size [])⟩ (.loc c.h.length) (.ref (s.heap.objs.size + 1)) := by
    refine rep_loc.mpr ⟨_, ?_, rfl⟩
    show (c.ms ++ [s.heap.objs.size + 1])[c.h.length]? = some _
    rw [← L, List.getElem?_append_right (Nat.le_refl _)]
    simp
  have p2 : Post X.K X.w X.mg (Rep X.K X.w X.mg) (WE fun cls d H => W cls d σ H) ⟨c.ms ++ [s.heap.objs.size + 1], c.h ++ [some (.ins C [] [])], upd (upd c.H s.heap.objs.size (.own (s.heap.objs.size + 1))) (s.heap.objs.size + 1) (.ins Ca s.heap.objs.size [])⟩ []
      (fun v H2 => v = .non ∧ Q (.ref (s.heap.objs.size + 1)) H2) (F (.loc c.h.length :: (ds ++ dd)) (c.h ++ [some (.ins C [] [])])) := by
    cases e : F (.loc c.h.length :: (ds ++ dd)) (c.h ++ [some (.ins C [] [])]) with
    | ok d h =>
      rw [e] at p
      intro ms' H' b E' S' rb
      cases d <;> first | exact False.elim p | skip
      case non =>
        exact ⟨rep_non.mp rb, p ms' H' _ (E.trans S E') S' (Rep.ext S2 E' _ _ rn)⟩
    | exc x h =>
      rw [e] at p
      exact fun ms' H' cls d E' S' q => p ms' H' cls d (E.trans S E') S' q
    | no =>
      rw [e] at p
      exact p
  refine wpAny_call (make_map (f := f) I.kIn M.makes M.init (beq_iff_eq.mp M.fn) (codeAny_mono (B.run _ X.stack _ _ ⟨Value.ref (s.heap.objs.size + 1) :: us, []⟩ (Value.ref (s.heap.objs.size + 1) :: (us ++ dsv)) _ (.loc c.h.length :: (ds ++ dd)) _ _ _ (fun cls d H => W cls d σ H) (hr.make Ca us []) hG
    (I2.env0.make Ca us []) (hb _ (Value.ref (s.heap.objs.size + 1) :: us) I2.kIn hlu) r2 hlen S2 (RepL.cons rn (RepL.append (RepL.ext S E _ _ rl) (hdd _))) p2) fun res s' q => ?_))
  match res, q with
  | .error e, q => exact tk e s' (XE.of_call I2 (fun cls d H' z => z) q)
  | .ok (.ret u), q =>
    obtain ⟨v, H', I3, rv, ev, q3⟩ := I2.after q
    subst ev
    exact ⟨rv, ⟨V.ref (s.heap.objs.size + 1), H', I3, rfl, q3⟩⟩
  | .ok .next, q => exact False.elim q
  | .ok .brk, q => exact False.elim q
  | .ok .cont, q => exact False.elim q
theorem den_make {x : Str} {C : String} {p pos : Pos} {e : Expr} {es : List Expr} {fs : DA} {k n : Nat} {F : Fn} {dd : List D} (B : CallN X x C k n F dd) (hr : Room (k + 1) X.A) (hG : X.A.guards = some []) (tk : Takes X W) (hg : Gl X x) (ha : DenA X W (e :: es) fs)
    (hdb : (x == ("__debug__" : Str)) = false := by decide) (he : starEach (e :: es) X.env = (false, eval e X.env) :: starEach es X.env := by rfl) (hpl : (backTo pos (starEach es X.env)).any (·.1) = false := by rfl) :
    Den X W (.Call (.Name x p) (e :: es) [] pos) (Dn.eMake C n F dd fs) := by
  obtain ⟨ex, Ca, f, fd, ps, dsv, dvs, dn, hm, M, hb, hd, hdd, hn⟩ := B.ex
  refine ⟨fun pins s σ H Q I t => ?_⟩
  refine wpAny_Call_Name_kw (ld_glob I hg (by rw [ex]; exact hm) ?_ hdb)
  refine PySem.W.callWith_K (h₀ := X.base) I.ok.mod.kin M.kp ?_ he hpl
  refine thn (ha.run pos pins s σ H (fun vs H1 => ∃ (ds : List Dn.D) (h : Hh) (ms : List Addr), simH X ⟨ms, h, H1⟩ ∧ repL X ⟨ms, h, H1⟩ ds vs ∧ PostX X W (rep X) ⟨ms, h, H1⟩ σ Q (if ds.length + dd.length + 1 = n then (F (.loc h.length :: (ds ++ dd)) (h ++ [some (.ins C [] [])])).bind (fun d h' => (match d with
      | .non => .ok (.loc h.length) h'
      | _ => .no)) else .no)) I
    (tG.bind t fun env ds h1 ms1 H1 vs S1 SE1 r p => ⟨ds, h1, ms1, S1, r, p⟩)) fun us s1 ⟨vs, H1, I1, r1, ds, h1, ms1, S1, rl, q⟩ => ⟨I1.kIn, ?_⟩
  by_cases hz : ds.length + dd.length + 1 = n
  · rw [if_pos hz] at q
    exact run_make_den (c := ⟨ms1, h1, H1⟩) dn hr hG M hm hb hd hdd tk I1 r1 S1 rl (by rw [hn]; exact hz) q
  · rw [if_neg hz] at q
    exact False.elim q

/-! ### {'k': e, ..}, a new dict -/
def DenKV (X : Cx) (W : WX) (pos : Pos) (keys : List (Option Expr)) (vals : List Expr) (ks : List Ky) (f : DA) : Prop :=
  keys.length = ks.length ∧ ∃ trs, PPs X pos keys vals trs ∧ ∀ σ H (Q : List V → Hp → Prop) (Q' : List (V × V) → Hp → Prop), (∀ vs H', vs.length = ks.length → Q vs H' → Q' ((ks.map fun k => kV (kyK k)).zip vs) H') → tG X W (repL X) f σ H Q → tPairs trs σ H Q'
theorem denKV_nil {pos : Pos} : DenKV X W pos [] [] [] aNil := ⟨rfl, [], pps_nil, fun σ H Q Q' k t => by
  obtain ⟨ms, env, h, S, SE, p⟩ := t
  exact k [] H rfl (Post.at (c := ⟨ms, h, H⟩) S p RepL.nil)⟩
theorem denKV_cons {pos p1 : Pos} {j : Nat} {x : Str} {v : Expr} {f : DE} {keys : List (Option Expr)} {vals : List Expr} {ks : List Ky} {fs : DA} (s : String) (es : x = Str.ofString s) (hv : Den X W v f) (h : DenKV X W pos keys vals ks fs) :
    DenKV X W pos (some (.Constant (.str x) j p1) :: keys) (v :: vals) (.s (S s) :: ks) (aCons f fs) := by
  subst es
  obtain ⟨hl, trs, h1, h2⟩ := h
  refine ⟨by simp [hl], _, pps_cons pe_str hv h1, fun σ H Q Q' k t => ?_⟩
  show tG X W (rep X) f σ H _
  refine tG.bind t fun env d h1 ms1 H1 v S1 SE1 r p => ?_
  refine h2 σ H1 (fun vs H2 => Q (v :: vs) H2) _ (fun vs H2 e2 q => ?_) (tG.of (c := ⟨ms1, h1, H1⟩) S1 SE1 (Post.bind S1 p fun ds h3 ms3 H3 us E3 S3 rl p3 => Post.at (c := ⟨ms3, h3, H3⟩) S3 p3 (RepL.cons (Rep.ext S1 E3 _ _ r) rl)))
  have q2 := k (v :: vs) H2 (by rw [List.length_cons, List.length_cons, e2]) q
  have e3 : ((Ky.s (S s) :: ks).map fun k => kV (kyK k)).zip (v :: vs) = (V.str (Str.ofString s), v) :: (ks.map fun k => kV (kyK k)).zip vs := by
    rw [← toS_S]
    rfl
  rw [e3] at q2
  exact q2
theorem merge_nodup : ∀ (ks : List Key) (vs : List V) (acc : List (Key × V)), ks.length = vs.length → ks.Nodup → (∀ k ∈ ks, ∀ p ∈ acc, p.1 ≠ k) → mergeK acc (ks.zip vs) = acc ++ ks.zip vs
  | [], vs, acc, _, _, _ => by simp [mergeK]
  | k :: ks, [], acc, h, _, _ => by simp at h
  | k :: ks, v :: vs, acc, h, hn, ha => by
    have hk : putK acc k v = acc ++ [(k, v)] := by
      unfold putK
      rw [if_neg]
      intro z
      obtain ⟨p, hp, e⟩ := List.any_eq_true.mp z
      exact ha k (List.mem_cons_self) p hp (by simpa using e)
    show mergeK (putK acc k v) (ks.zip vs) = _
    obtain ⟨n1, n2⟩ := List.nodup_cons.mp hn
    rw [hk, merge_nodup ks vs _ (by simpa using h) n2 (fun q hq p hp => ?_), List.append_assoc]
    · rfl
    · rcases List.mem_append.mp hp with hp | hp
      · exact ha q (List.mem_cons_of_mem _ hq) p hp
      · rw [List.mem_singleton.mp hp]
        exact fun e => n1 (by rw [show k = q from e]; exact hq)
theorem kyK_nodup {ks : List Ky} (h : ks.Nodup) : (ks.map kyK).Nodup := by
  induction ks with
  | nil => simp
  | cons k ks ih =>
    obtain ⟨n1, n2⟩ := List.nodup_cons.mp h
    rw [List.map_cons]
    refine List.nodup_cons.mpr ⟨fun z => ?_, ih n2⟩
    obtain ⟨q, hq, e⟩ := List.mem_map.mp z
    rw [kyK_inj] at e
    exact n1 (e ▸ hq)
theorem den_dict {pos : Pos} {keys : List (Option Expr)} {vals : List Expr} {ks : List Ky} {f : DA} (h : DenKV X W pos keys vals ks f) (hn : ks.Nodup := by decide) (h15 : ks.length ≤ 15 := by decide) (h0 : keys ≠ [] := by simp) (hall : keys.all (·.isSome) = true := by rfl) (hl : keys.length = vals.length := by rfl) :
    Den X W (.Dict keys vals pos) (eDic ks f) := by
  obtain ⟨hk, trs, h1, h2⟩ := h
  refine PE.weak (pe_disp h1 hall hl h0 (by omega)) fun σ H Q t => ?_
  intro a ha
  obtain ⟨ms, env, hh, S, SE, p⟩ := t
  have E := Ext.new_ (oo := some (O.dic [] [])) (u := .dK []) S ha
  have S2 : simH X ⟨ms ++ [a], hh ++ [some (.dic [] [])], upd H a (.dK [])⟩ := SimH.new_ S ha ⟨[], upd_same, rfl, RepL.nil⟩
  have L : ms.length = hh.length := S.len
  have hm : (ms ++ [a])[hh.length]? = some a := by
    rw [← L, List.getElem?_append_right (Nat.le_refl _)]
    simp
  have p' := Post.ext S E p
  refine h2 σ (upd H a (.dK [])) (fun vs H2 => H2 a = some (.dK []) ∧ ∃ (ds : List D) (h2 : Hh) (ms2 : List Addr), simH X ⟨ms2, h2, H2⟩ ∧ repL X ⟨ms2, h2, H2⟩ ds vs ∧ ms2[hh.length]? = some a ∧ h2[hh.length]? = some (some (.dic [] [])) ∧ ds.length = ks.length ∧
    PostX X W (rep X) ⟨ms2, h2, H2⟩ σ Q (.ok (.loc hh.length) (h2.set hh.length (some (.dic ks ds))))) _ (fun vs H2 e2 q => ?_) (tG.of (c := ⟨ms ++ [a], hh ++ [some (.dic [] [])], upd H a (.dK [])⟩) (f := f) (env := env) S2 (SE.ext S E) (Post.bind S2 p' fun ds h3 ms3 H3 us E3 S3 rl p3 => ?_))
  · obtain ⟨q1, ds, h2, ms2, S3, rl, em, en, ed, p3⟩ := q
    have el : ((ks.map fun k => kV (kyK k)).zip vs) = ((ks.map kyK).zip vs).map fun kv => (kV kv.1, kv.2) := by
      rw [List.zip_map_left, List.zip_map_left, List.map_map]
      rfl
    refine ⟨q1, (ks.map kyK).zip vs, el, by rw [List.length_zip, List.length_map]; omega, ?_⟩
    rw [merge_nodup (ks.map kyK) vs [] (by rw [List.length_map]; exact e2.symm) (kyK_nodup hn) (fun _ _ p hp => by simp at hp), List.nil_append]
    have E3 := Ext.put (oo := O.dic ks ds) (u := .dK ((ks.map kyK).zip vs)) S3 en em
    exact p3 ms2 _ _ E3 (SimH.put S3 en em ⟨vs, upd_same, e2.symm, RepL.ext S3 E3 _ _ rl⟩) (rep_loc.mpr ⟨a, em, rfl⟩)
  · have em := E3.ms hm
    cases e : h3[hh.length]? with
    | none =>
      simp only [e] at p3
      exact False.elim p3
    | some o =>
      cases o with
      | none =>
        simp only [e] at p3
        exact False.elim p3
      | some o =>
        cases o <;> simp only [e] at p3 <;> first | exact False.elim p3 | skip
        case dic ks' ds' =>
          cases ks' <;> cases ds' <;> simp only at p3 <;> first | exact False.elim p3 | skip
          by_cases z : ds.length = ks.length
          · rw [if_pos z] at p3
            obtain ⟨b, eb, vs', q, l, _⟩ := S3.live _ _ e
            have eb2 : ms3[hh.length]? = some b := eb
            have em2 : ms3[hh.length]? = some a := em
            rw [em2] at eb2
            cases eb2
            refine ⟨q, ds, h3, ms3, S3, rl, em2, e, z, p3⟩
          · rw [if_neg z] at p3
            exact False.elim p3

/-! ### a + b, a list that will be changed -/
theorem den_addBox {a b : Expr} {fa fb : DE} {pos : Pos} (ha : Den X W a fa) (hb : Den X W b fb) : Den X W (.BinOp a .Add b pos) (eBox (e2 opAdd fa fb)) := by
  refine PE.weak (pe_op op_cat ha hb) fun σ H Q t => ?_
  have t' : tG X W (rep X) (fun env h => (fa env h).bind fun x h => (fb env h).bind fun y h => (opAdd x y h).bind fun d h => match d with
    | .lst ds => .ok (.loc h.length) (h ++ [some (.lst ds)])
    | .dic ks ds => .ok (.loc h.length) (h ++ [some (.dic ks ds)])
    | _ => .no) σ H Q := by
    unfold eBox e2 at t
    simp only [R.bind_assoc] at t
    exact t
  refine tG.bind t' fun env x h1 ms1 H1 v S1 SE1 r1 p1 => ?_
  refine tG.of (c := ⟨ms1, h1, H1⟩) S1 SE1 (Post.bind S1 p1 fun y h2 ms2 H2 u E2 S2 r2 p2 => ?_)
  have r1' := Rep.ext S1 E2 _ _ r1
  cases x <;> cases y <;> first | (exact False.elim p2; done) | skip
  case str.str s t =>
    exfalso
    simp only [opAdd] at p2
    split at p2 <;> exact p2
  case tup.tup s t =>
    exfalso
    simp only [opAdd] at p2
    split at p2 <;> exact p2
  case lst.lst s t =>
    simp only [opAdd] at p2
    by_cases z : s.length + t.length ≤ big
    · rw [if_pos z] at p2
      obtain ⟨l, xs, rfl, q1, _, rs1, z1⟩ := rep_lst.mp r1'
      obtain ⟨b, zs, rfl, q2, _, rs2, z2⟩ := rep_lst.mp r2
      refine ⟨l, b, xs, zs, rfl, rfl, q1, q2, by rw [← repL_len rs1, ← repL_len rs2, ← big_eq]; exact z, fun q hq => ?_⟩
      have p3 : PostX X W (rep X) ⟨ms2, h2, H2⟩ σ Q (.ok (.loc h2.length) (h2 ++ [some (.lst (s ++ t))])) := p2
      have E := Ext.new_ (oo := some (O.lst (s ++ t))) (u := .lst (xs ++ zs)) S2 hq
      have rl : repL X ⟨ms2, h2, H2⟩ (s ++ t) (xs ++ zs) := RepL.append rs1 rs2
      refine p3 (ms2 ++ [q]) (upd H2 q (.lst (xs ++ zs))) (.ref q) E (SimH.new_ S2 hq ⟨xs ++ zs, upd_same, RepL.ext S2 E _ _ rl, by simpa using z⟩) (rep_loc.mpr ⟨q, ?_, rfl⟩)
      have L : ms2.length = h2.length := S2.len
      show (ms2 ++ [q])[h2.length]? = some q
      rw [← L, List.getElem?_append_right (Nat.le_refl _)]
      simp
    · rw [if_neg z] at p2
      exact False.elim p2
end
end Dn

/-! text DnM -/
set_option maxHeartbeats 1000000
set_option Elab.async false
set_option linter.all false
set_option maxRecDepth 100000
set_option autoImplicit false
/-! Dn, part M: garbage forgotten, loops. -/
namespace Dn
open PySem L2
section
variable {K : PySem.W.Frag} {w : World} {mg : Str → Option Value}
/-! ### what is below n needs nothing above -/
def cut (n : Nat) (c : Cz) : Cz := ⟨c.ms.take n, c.h.take n, c.H⟩
theorem cut_froz {n : Nat} {c : Cz} {a : Addr} (f : Froz c a) : Froz (cut n c) a := fun i o hi hm => by
  have hi2 : (c.h.take n)[i]? = some (some o) := hi
  have hm2 : (c.ms.take n)[i]? = some a := hm
  rw [List.getElem?_take] at hi2 hm2
  by_cases z : i < n
  · rw [if_pos z] at hi2 hm2
    exact f i o hi2 hm2
  · rw [if_neg z] at hi2
    cases hi2
mutual
theorem Rep.cut {n : Nat} {c : Cz} : ∀ (d : D) (v : V), below n d = true → Rep K w mg c d v → Rep K w mg (Dn.cut n c) d v
  | .non, v, _, r => by unfold Rep at r ⊢; exact r
  | .bl _, v, _, r => by unfold Rep at r ⊢; exact r
  | .int _, v, _, r => by unfold Rep at r ⊢; exact r
  | .str _, v, _, r => by unfold Rep at r ⊢; exact r
  | .ty _, v, _, r => by unfold Rep at r ⊢; exact r
  | .glb _, v, _, r => by unfold Rep at r ⊢; exact r
  | .scr _, v, _, r => by
    unfold Rep at r ⊢
    obtain ⟨a, e, z, q⟩ := r
    refine ⟨a, e, z, ?_⟩
    rcases q with ⟨q, f⟩ | q
    · exact .inl ⟨q, cut_froz f⟩
    · exact .inr q
  | .loc m, v, b, r => by
    unfold Rep at r ⊢
    obtain ⟨a, e, z⟩ := r
    have hm : m < n := by simpa [below] using b
    refine ⟨a, ?_, z⟩
    show (c.ms.take n)[m]? = some a
    rw [List.getElem?_take, if_pos hm]
    exact e
  | .tup ds, v, b, r => by
    unfold Rep at r ⊢
    obtain ⟨a, vs, e, q, rs, z⟩ := r
    exact ⟨a, vs, e, q, RepL.cut ds vs (by simpa [below] using b) rs, z⟩
  | .lst ds, v, b, r => by
    unfold Rep at r ⊢
    obtain ⟨a, vs, e, q, f, rs, z⟩ := r
    exact ⟨a, vs, e, q, cut_froz f, RepL.cut ds vs (by simpa [below] using b) rs, z⟩
  | .dic ks ds, v, b, r => by
    unfold Rep at r ⊢
    obtain ⟨a, vs, e, l, rs, q, f⟩ := r
    exact ⟨a, vs, e, l, RepL.cut ds vs (by simpa [below] using b) rs, q, cut_froz f⟩
  | .tab ks ds, v, b, r => by
    unfold Rep at r ⊢
    obtain ⟨a, vs, e, l, rs, q⟩ := r
    exact ⟨a, vs, e, l, RepL.cut ds vs (by simpa [below] using b) rs, q⟩
theorem RepL.cut {n : Nat} {c : Cz} : ∀ (ds : List D) (vs : List V), belows n ds = true → RepL K w mg c ds vs → RepL K w mg (Dn.cut n c) ds vs
  | [], vs, _, r => by
    rw [RepL.of_nil r]
    exact RepL.nil
  | d :: ds, vs, b, r => by
    obtain ⟨v, us, rfl, r1, r2⟩ := RepL.of_cons r
    have b2 : below n d = true ∧ belows n ds = true := by simpa [belows] using b
    exact RepL.cons (Rep.cut d v b2.1 r1) (RepL.cut ds us b2.2 r2)
end
mutual
/-- what stands for something refers to what is there -/
theorem Rep.below {c : Cz} : ∀ (d : D) (v : V), Rep K w mg c d v → Dn.below c.ms.length d = true
  | .non, v, _ => rfl
  | .bl _, v, _ => rfl
  | .int _, v, _ => rfl
  | .str _, v, _ => rfl
  | .ty _, v, _ => rfl
  | .glb _, v, _ => rfl
  | .scr _, v, _ => rfl
  | .loc m, v, r => by
    unfold Rep at r
    obtain ⟨a, e, z⟩ := r
    have : m < c.ms.length := by
      by_cases q : m < c.ms.length
      · exact q
      · rw [List.getElem?_eq_none (by omega)] at e
        cases e
    simpa [Dn.below] using this
  | .tup ds, v, r => by
    unfold Rep at r
    obtain ⟨a, vs, e, q, rs, z⟩ := r
    simpa [Dn.below] using RepL.below ds vs rs
  | .lst ds, v, r => by
    unfold Rep at r
    obtain ⟨a, vs, e, q, f, rs, z⟩ := r
    simpa [Dn.below] using RepL.below ds vs rs
  | .dic ks ds, v, r => by
    unfold Rep at r
    obtain ⟨a, vs, e, l, rs, q, f⟩ := r
    simpa [Dn.below] using RepL.below ds vs rs
  | .tab ks ds, v, r => by
    unfold Rep at r
    obtain ⟨a, vs, e, l, rs, q⟩ := r
    simpa [Dn.below] using RepL.below ds vs rs
theorem RepL.below {c : Cz} : ∀ (ds : List D) (vs : List V), RepL K w mg c ds vs → belows c.ms.length ds = true
  | [], vs, _ => rfl
  | d :: ds, vs, r => by
    obtain ⟨v, us, rfl, r1, r2⟩ := RepL.of_cons r
    show (Dn.below _ d && belows _ ds) = true
    rw [Rep.below d v r1, RepL.below ds us r2]
    rfl
end
theorem RepO.cut {n : Nat} {c : Cz} {o : O} {a : Addr} (b : belowO n o = true) (r : RepO K w mg c o a) : RepO K w mg (Dn.cut n c) o a := by
  cases o with
  | lst ds =>
    obtain ⟨vs, q, rs, z⟩ := r
    exact ⟨vs, q, RepL.cut ds vs b rs, z⟩
  | dic ks ds =>
    obtain ⟨vs, q, l, rs⟩ := r
    exact ⟨vs, q, l, RepL.cut ds vs b rs⟩
  | ins C fs ds =>
    obtain ⟨Ca, dx, vs, q1, q2, l, rs⟩ := r
    exact ⟨Ca, dx, vs, q1, q2, l, RepL.cut ds vs b rs⟩
theorem RepO.belowO {c : Cz} {o : O} {a : Addr} (r : RepO K w mg c o a) : Dn.belowO c.ms.length o = true := by
  cases o with
  | lst ds =>
    obtain ⟨vs, q, rs, z⟩ := r
    exact RepL.below ds vs rs
  | dic ks ds =>
    obtain ⟨vs, q, l, rs⟩ := r
    exact RepL.below ds vs rs
  | ins C fs ds =>
    obtain ⟨Ca, dx, vs, q1, q2, l, rs⟩ := r
    exact RepL.below ds vs rs
/-- the heap without what came since c -/
theorem SimH.cut {c c' : Cz} {d : D} (S : SimH K w mg c) (E : Ext c c') (S' : SimH K w mg c') (t : Trims c.h d c'.h) : Ext c (Dn.cut c.h.length c') ∧ SimH K w mg (Dn.cut c.h.length c') := by
  obtain ⟨t1, _, t3⟩ := t
  have L := S.len
  have L' := S'.len
  have hms : c'.ms.take c.h.length = c.ms := by
    obtain ⟨l, e⟩ := E.pre
    rw [e, ← L, List.take_left]
  refine ⟨⟨⟨[], ?_⟩, ?_, fun n hn => ?_, fun n a hn e => ?_, E.keep, E.there⟩, ⟨?_, fun i j a hi hj => ?_, fun n a hn => ?_, fun n o hn => ?_⟩⟩
  · show c'.ms.take c.h.length = _
    rw [hms, List.append_nil]
  · show c.h.length ≤ (c'.h.take c.h.length).length
    rw [List.length_take]
    omega
  · show (c'.h.take c.h.length)[n]? = some none
    have hl : n < c.h.length := by
      by_cases q : n < c.h.length
      · exact q
      · rw [List.getElem?_eq_none (by omega)] at hn
        cases hn
    rw [List.getElem?_take, if_pos hl]
    exact E.dead n hn
  · have e2 : (c'.ms.take c.h.length)[n]? = some a := e
    rw [hms, List.getElem?_eq_none hn] at e2
    cases e2
  · show (c'.ms.take c.h.length).length = (c'.h.take c.h.length).length
    rw [List.length_take, List.length_take]
    omega
  · have hi2 : (c'.ms.take c.h.length)[i]? = some a := hi
    have hj2 : (c'.ms.take c.h.length)[j]? = some a := hj
    rw [hms] at hi2 hj2
    exact S'.nd i j a (E.ms hi2) (E.ms hj2)
  · have hn2 : (c'.ms.take c.h.length)[n]? = some a := hn
    rw [hms] at hn2
    exact S'.all n a (E.ms hn2)
  · have hn2 : (c'.h.take c.h.length)[n]? = some (some o) := hn
    rw [List.getElem?_take] at hn2
    by_cases z : n < c.h.length
    · rw [if_pos z] at hn2
      obtain ⟨a, ea, ro⟩ := S'.live n o hn2
      refine ⟨a, ?_, RepO.cut ?_ ro⟩
      · show (c'.ms.take c.h.length)[n]? = some a
        rw [List.getElem?_take, if_pos z]
        exact ea
      · rcases t3 n z with q | q
        · rw [hn2] at q
          obtain ⟨b, _, ro2⟩ := S.live n o q.symm
          have := ro2.belowO
          rw [L] at this
          exact this
        · exact q o hn2
    · rw [if_neg z] at hn2
      cases hn2
theorem Post.trim {W : WX} {c : Cz} {σ : St} {Q : VK} {r : R D} (S : SimH K w mg c) (p : Post K w mg (Rep K w mg) W c σ Q (trim c.h r)) : Post K w mg (Rep K w mg) W c σ Q r := by
  cases r with
  | ok d h =>
    unfold Dn.trim at p
    simp only at p
    by_cases t : Trims c.h d h
    · rw [if_pos t] at p
      intro ms' H' b E' S' r
      obtain ⟨E2, S2⟩ := SimH.cut (c' := ⟨ms', h, H'⟩) S E' S' t
      exact p _ H' b E2 S2 (Rep.cut d b t.2.1 r)
    · rw [if_neg t] at p
      exact p
  | exc x h => exact p
  | no => exact p
/-- a def's garbage is forgotten -/
theorem FnDen.trim {P : Program} {base : Heap} {k : Nat} {f : Addr} {fd : FuncData} {ps : List Str} {F : Fn} (dn : FnDen P w K mg base k f fd ps F) : FnDen P w K mg base k f fd ps (fun ds h => Dn.trim h (F ds h)) :=
  ⟨fun A outer s H args us vs ds ms h Q E hr hg e0 hb r hl S rl p => dn.run A outer s H args us vs ds ms h Q E hr hg e0 hb r hl S rl (Post.trim (c := ⟨ms, h, H⟩) S p)⟩
end
end Dn

/-! text DnN -/
set_option maxHeartbeats 1000000
set_option Elab.async false
set_option linter.all false
set_option maxRecDepth 100000
set_option autoImplicit false
/-! Dn, part N: what a loop walks, for, while. -/
namespace Dn
open PySem L2
section
variable (X : Cx) (W : WX)
/-- the iterator gives these values, whatever comes -/
def WalkOk (c : Cz) (ds : List D) (J : It) : Prop := ∃ (G : Hp → Prop) (Y : Nat → Hp → V → Hp → Prop), Walk J ds.length G Y ∧ ∀ c', Ext c c' → simH X c' → G c'.H ∧ ∀ i x H'', i < ds.length → Y i c'.H x H'' → H'' = c'.H ∧ ∃ d, ds[i]? = some d ∧ rep X c' d x
def DenI (tg iter : Expr) (f : DI) : Prop := ∃ wi, PI X tg iter wi ∧ ∀ σ H R, tG X W (WalkOk X) f σ H R → wi σ H R
end
section
variable {X : Cx} {W : WX}
theorem walkOk_lst {c : Cz} {ds : List D} {v : V} (S : simH X c) (r : rep X c (.lst ds) v) : ∃ a, v = .ref a ∧ (∃ xs, SqL X.K c.H a xs) ∧ WalkOk X c ds (Itl X.K a) := by
  obtain ⟨a, vs, rfl, q, f, rs, z⟩ := rep_lst.mp r
  refine ⟨a, rfl, ⟨vs, SqL.of q⟩, fun H => SqL X.K H a vs, YAt vs, ?_, fun c' E S' => ⟨SqL.of (E.keep a _ q f), fun i x H'' hi y => ⟨y.1, ?_⟩⟩⟩
  · rw [repL_len rs]
    exact walk_list
  · obtain ⟨d, hd⟩ : ∃ d, ds[i]? = some d := ⟨ds[i], by simp [hi]⟩
    obtain ⟨u, hu, ru⟩ := RepL.get rs hd
    rw [y.2] at hu
    cases hu
    exact ⟨d, hd, Rep.ext S E _ _ ru⟩
theorem denI_lst {tg e : Expr} {f : DE} (h : Den X W e f) : DenI X W tg e (iE itL f) := by
  refine ⟨_, pi_list h, fun σ H R t => ?_⟩
  refine tG.bind t fun env d h1 ms1 H1 v S1 SE1 r p => ?_
  cases d <;> first | exact False.elim p | skip
  case scr ns =>
    unfold rep Rep at r
    obtain ⟨a, rfl, z, q⟩ := r
    have sq : SqL X.K H1 a (ns.map V.int) := by
      rcases q with ⟨q, _⟩ | q
      · exact .inl q
      · exact q H1
    refine ⟨a, rfl, ⟨_, sq⟩, Post.at (c := ⟨ms1, h1, H1⟩) S1 p ⟨fun H => SqL X.K H a (ns.map V.int), YAt (ns.map V.int), ?_, fun c' E S' => ⟨?_, fun i x H'' hi y => ⟨y.1, ?_⟩⟩⟩⟩
    · have := walk_list (K := X.K) (a := a) (xs := ns.map V.int)
      rw [List.length_map] at this
      rw [List.length_map]
      exact this
    · rcases q with ⟨q, f⟩ | q
      · refine .inl ?_
        rcases q with q | ⟨o, q⟩
        · exact .inl (E.keep a _ q f)
        · exact .inr ⟨o, E.keep a _ q f⟩
      · exact q c'.H
    · have y2 := y.2
      rw [List.getElem?_map] at y2
      obtain ⟨n, e1, rfl⟩ := Option.map_eq_some_iff.mp y2
      exact ⟨.int n, by rw [List.getElem?_map, e1]; rfl, rep_int.mpr rfl⟩
  case lst ds =>
    obtain ⟨a, rfl, hx, w⟩ := walkOk_lst (c := ⟨ms1, h1, H1⟩) S1 r
    exact ⟨a, rfl, hx, Post.at (c := ⟨ms1, h1, H1⟩) S1 p w⟩
theorem denI_tup {tg e : Expr} {f : DE} (h : Den X W e f) : DenI X W tg e (iE itT f) := by
  refine ⟨_, pi_tup h, fun σ H R t => ?_⟩
  refine tG.bind t fun env d h1 ms1 H1 v S1 SE1 r p => ?_
  cases d <;> first | exact False.elim p | skip
  case tup ds =>
    obtain ⟨a, vs, rfl, q, rs, z⟩ := rep_tup.mp r
    refine ⟨a, rfl, ⟨vs, q⟩, Post.at (c := ⟨ms1, h1, H1⟩) S1 p ⟨fun H => SqT X.K H a vs, YAt vs, ?_, fun c' E S' => ⟨?_, fun i x H'' hi y => ⟨y.1, ?_⟩⟩⟩⟩
    · rw [repL_len rs]
      exact walk_tup
    · exact SqT_ext S1 E q
    · obtain ⟨d, hd⟩ : ∃ d, ds[i]? = some d := ⟨ds[i], by simp [hi]⟩
      obtain ⟨u, hu, ru⟩ := RepL.get rs hd
      rw [y.2] at hu
      cases hu
      exact ⟨d, hd, Rep.ext S1 E _ _ ru⟩
theorem denI_str {tg e : Expr} {f : DE} (h : Den X W e f) : DenI X W tg e (iE itS f) := by
  refine ⟨_, pi_str h, fun σ H R t => ?_⟩
  refine tG.bind t fun env d h1 ms1 H1 v S1 SE1 r p => ?_
  cases d <;> first | exact False.elim p | skip
  case str tx =>
    obtain ⟨rfl, z, cs⟩ := rep_str.mp r
    refine ⟨toS tx, rfl, Post.at (c := ⟨ms1, h1, H1⟩) S1 p ⟨fun _ => True, fun i H v H' => H' = H ∧ ∃ c, (toS tx).cps[i]? = some c ∧ v = .str ⟨#[c]⟩, ?_, fun c' E S' => ⟨trivial, fun i x H'' hi y => ⟨y.1, ?_⟩⟩⟩⟩
    · have hw := walk_str (z := toS tx)
      have e : (toS tx).cps.size = (tx.map fun c => D.str [c]).length := by
        rw [List.length_map]
        exact toS_length tx
      rw [e] at hw
      exact hw
    · obtain ⟨c0, e1, rfl⟩ := y.2
      have e2 : tx[i]? = some c0 := by
        have : (tx.toArray)[i]? = some c0 := e1
        simpa using this
      refine ⟨.str [c0], by rw [List.getElem?_map, e2]; rfl, rep_str.mpr ⟨rfl, by show 1 ≤ big; decide, fun q hq => ?_⟩⟩
      rw [List.mem_singleton.mp hq]
      exact cs c0 (List.mem_of_getElem? e2)
theorem denI_range {tg a : Expr} {f : DE} {p pos : Pos} (hg : Gl X "range") (hm : X.mg "range" = none) (h : Den X W a f) (hs : starEach [a] X.env = [(false, eval a X.env)] := by rfl) (hs2 : starEach (a :: []) X.env = (false, eval a X.env) :: starEach [] X.env := by rfl) :
    DenI X W tg (.Call (.Name "range" p) [a] [] pos) (iRange f) := by
  refine ⟨_, pi_range1 hg hm (dena_cons h dena_nil hs2) hs, fun σ H R t => ?_⟩
  have t' : tG X W (WalkOk X) (fun env h => ((aCons f aNil) env h).bind fun ds h => match ds with
      | [.int n] => if n < 2 ^ 62 ∧ -(2 ^ 62) ≤ n then .ok ((List.range n.toNat).map fun k => D.int (k : Nat)) h else .no
      | _ => .no) σ H R := by
    obtain ⟨ms, env, hh, S, SE, q⟩ := t
    refine ⟨ms, env, hh, S, SE, ?_⟩
    have e0 : (fun env h => ((aCons f aNil) env h).bind fun ds h => match ds with
      | [.int n] => if n < 2 ^ 62 ∧ -(2 ^ 62) ≤ n then .ok ((List.range n.toNat).map fun k => D.int (k : Nat)) h else .no
      | _ => .no) env hh = iRange f env hh := by
      show ((f env hh).bind fun x h => (Dn.R.ok [] h).bind fun xs h => Dn.R.ok (x :: xs) h).bind (fun ds h => match ds with
        | [.int n] => if n < 2 ^ 62 ∧ -(2 ^ 62) ≤ n then .ok ((List.range n.toNat).map fun k => D.int (k : Nat)) h else .no
        | _ => .no) = iRange f env hh
      unfold iRange
      cases f env hh with
      | ok d h1 => cases d <;> rfl
      | exc x h1 => rfl
      | no => rfl
    rw [e0]
    exact q
  refine tG.bind t' fun env ds h1 ms1 H1 vs S1 SE1 r p => ?_
  cases ds with
  | nil => exact False.elim p
  | cons d ds =>
    cases ds with
    | cons _ _ => cases d <;> exact False.elim p
    | nil =>
      cases d <;> first | exact False.elim p | skip
      case int n =>
        obtain ⟨v, rfl, r1⟩ := repL1 r
        simp only at p
        by_cases z : n < 2 ^ 62 ∧ -(2 ^ 62) ≤ n
        · rw [if_pos z] at p
          refine ⟨n, by rw [rep_int.mp r1], z.2, z.1, Post.at (c := ⟨ms1, h1, H1⟩) S1 p ⟨fun _ => True, YFn fun i => .int (0 + i), ?_, fun c' E S' => ⟨trivial, fun i x H'' hi y => ⟨y.1, ?_⟩⟩⟩⟩
          · have hw := walk_range (lo := 0) (n := n.toNat)
            have e : ((List.range n.toNat).map fun k => D.int (k : Nat)).length = n.toNat := by simp
            rw [e]
            exact hw
          · have hi2 : i < n.toNat := by simpa using hi
            refine ⟨.int (i : Nat), by simp [hi2], rep_int.mpr ?_⟩
            rw [y.2]
            simp
        · rw [if_neg z] at p
          exact False.elim p

/-! ### for -/
theorem PostS.nexts {c : Cz} {T T' : Ends} {r : RS} {f : Env → Hh → RS} (S : simH X c) (p : PostS X W c T (r.next f)) (h0 : T'.bk = T.bk) (h1 : T'.ct = T.ct) (h2 : T'.rt = T.rt)
    (h3 : ∀ env h ms H σ, Ext c ⟨ms, h, H⟩ → simH X ⟨ms, h, H⟩ → simE X ⟨ms, h, H⟩ env σ → PostS X W ⟨ms, h, H⟩ T (f env h) → T'.nx σ H) : PostS X W c T' r := by
  cases r with
  | nx env h => exact fun ms H σ E S' SE => h3 env h ms H σ E S' SE (PostS.ext S E p)
  | rt d h => exact fun ms H v E S' q => by rw [h2]; exact p ms H v E S' q
  | bk env h => exact fun ms H σ E S' SE => by rw [h0]; exact p ms H σ E S' SE
  | ct env h => exact fun ms H σ E S' SE => by rw [h1]; exact p ms H σ E S' SE
  | exc x env h => exact p
  | no => exact p
/-- one turn of a loop -/
def loopR (r : RS) (k : Env → Hh → RS) : RS := match r with
  | .nx env h => k env h
  | .ct env h => k env h
  | .bk env h => .nx env h
  | r => r
theorem forL_cons (body : D → Env → Hh → RS) (d : D) (ds : List D) (env : Env) (h : Hh) : forL body (d :: ds) env h = loopR (body d env h) (forL body ds) := by
  show (match body d env h with
    | .nx env h => forL body ds env h
    | .ct env h => forL body ds env h
    | .bk env h => .nx env h
    | r => r) = _
  cases body d env h <;> rfl
theorem PostS.loop {c : Cz} {T : Ends} {N : St → Hp → Prop} {r : RS} {k : Env → Hh → RS} (S : simH X c) (p : PostS X W c T (loopR r k))
    (h3 : ∀ env h ms H σ, Ext c ⟨ms, h, H⟩ → simH X ⟨ms, h, H⟩ → simE X ⟨ms, h, H⟩ env σ → PostS X W ⟨ms, h, H⟩ T (k env h) → N σ H) : PostS X W c { T with nx := N, ct := N, bk := T.nx } r := by
  cases r with
  | nx env h => exact fun ms H σ E S' SE => h3 env h ms H σ E S' SE (PostS.ext S E p)
  | ct env h => exact fun ms H σ E S' SE => h3 env h ms H σ E S' SE (PostS.ext S E p)
  | rt d h => exact p
  | bk env h => exact p
  | exc x env h => exact p
  | no => exact p
theorem dens_for {tg iter : Expr} {body : List Stmt} {f : DI} {g : DG} {b : DS} {vs : List Nat} {pos : Pos} (hp : PassesOwn (model X.prog X.w) X.A X.env X.xe) (hc : X.calm = true) (hi : DenI X W tg iter f) (hg : DenG X vs tg g) (hb : DenSs X W body b)
    (hs : ∀ x, foldedSetIterable iter X.env x = pure x := by intro _; rfl) : DenS X W (.For tg iter body [] pos) (sFor f g b) := by
  obtain ⟨wi, h1, h2⟩ := hi
  refine PS.weak (ps_for hp hc h1 hg hb hs) fun T σ H t => ?_
  refine h2 σ H _ (tS.thenS t fun env ds h1 ms1 H1 J S1 SE1 wk p => ?_)
  obtain ⟨G, Y, wlk, hGY⟩ := wk
  refine for_it wlk (fun i σ H => ∃ ms env h, Ext ⟨ms1, h1, H1⟩ ⟨ms, h, H⟩ ∧ simH X ⟨ms, h, H⟩ ∧ simE X ⟨ms, h, H⟩ env σ ∧ PostS X W ⟨ms, h, H⟩ T (forL (turnS g b) (ds.drop i) env h)) ⟨ms1, env, h1, Ext.refl, S1, SE1, p⟩ (fun i σ H _ q => ?_) (fun i x σ H H' hi q y => ?_) (fun σ H q => ?_)
  · obtain ⟨ms, env, h, E, S, SE, q⟩ := q
    exact (hGY _ E S).1
  · obtain ⟨ms, env, h, E, S, SE, q⟩ := q
    obtain ⟨e1, d, hd, rd⟩ := (hGY _ E S).2 i x H' hi y
    subst e1
    have ed : ds.drop i = d :: ds.drop (i + 1) := by
      rw [List.drop_eq_getElem_cons hi]
      congr 1
      have := List.getElem?_eq_getElem hi
      rw [hd] at this
      exact (Option.some.inj this).symm
    rw [ed, forL_cons] at q
    have p2 := PostS.loop (N := fun σ H => ∃ ms env h, Ext ⟨ms1, h1, H1⟩ ⟨ms, h, H⟩ ∧ simH X ⟨ms, h, H⟩ ∧ simE X ⟨ms, h, H⟩ env σ ∧ PostS X W ⟨ms, h, H⟩ T (forL (turnS g b) (ds.drop (i + 1)) env h)) S q fun env' h' ms' H' σ' E' S' SE' q' => ⟨ms', env', h', E.trans S1 E', S', SE', q'⟩
    refine ⟨ms, env, h, d, S, SE, rd, ?_⟩
    unfold turnS at p2
    cases e2 : g d env h with
    | ok env' h' =>
      rw [e2] at p2
      intro ms' H' σ' E' S' SE' _
      exact tS.of (c := ⟨ms', h', H'⟩) S' SE' (PostS.ext S E' p2)
    | exc _ _ => rw [e2] at p2; exact p2
    | no => rw [e2] at p2; exact p2
  · obtain ⟨ms, env, h, E, S, SE, q⟩ := q
    rw [List.drop_length] at q
    exact PostS.atNx (c := ⟨ms, h, H⟩) S SE q

/-! ### while -/
theorem whileN_succ (t : DT) (b : DS) (n : Nat) (env : Env) (h : Hh) : whileN t b (n + 1) env h = (t env h).thenS env fun c h => if c then loopR (b env h) (whileN t b n) else .nx env h := by
  show (t env h).thenS env (fun c h => if c then (match b env h with
      | .nx env h => whileN t b n env h
      | .ct env h => whileN t b n env h
      | .bk env h => .nx env h
      | r => r) else .nx env h) = _
  cases t env h with
  | ok c h =>
    cases c
    · rfl
    · show (match b env h with
        | .nx env h => whileN t b n env h
        | .ct env h => whileN t b n env h
        | .bk env h => .nx env h
        | r => r) = loopR (b env h) (whileN t b n)
      cases b env h <;> rfl
  | exc x h => rfl
  | no => rfl
theorem dens_while (n : Nat) {e : Expr} {body : List Stmt} {t : DT} {b : DS} {pos : Pos} (hp : PassesOwn (model X.prog X.w) X.A X.env X.xe) (hc : DenT X W e t) (hb : DenSs X W body b) : DenS X W (.While e body [] pos) (sWhile n t b) := by
  refine PS.weak (ps_while hp hc hb) fun T σ H q => ?_
  refine ⟨fun m σ H => tS X W (whileN t b m) T σ H, ⟨n, q⟩, fun m σ H q => ?_⟩
  cases m with
  | zero =>
    obtain ⟨ms, env, h, S, SE, p⟩ := q
    exact False.elim p
  | succ m =>
    have q2 : tS X W (fun env h => (t env h).thenS env fun c h => if c then loopR (b env h) (whileN t b m) else .nx env h) T σ H := by
      obtain ⟨ms, env, h, S, SE, p⟩ := q
      rw [whileN_succ] at p
      exact ⟨ms, env, h, S, SE, p⟩
    refine tS.thenS q2 fun env c h1 ms1 H1 x S1 SE1 r p => ?_
    have r' : c = x := r
    subst r'
    cases c with
    | true =>
      rw [if_pos rfl] at p ⊢
      refine ⟨fun σ H => tS X W (whileN t b m) T σ H, fun σ' H' z => ⟨m, Nat.lt_succ_self m, z⟩, ?_⟩
      exact tS.of (c := ⟨ms1, h1, H1⟩) S1 SE1 (PostS.loop S1 p fun env' h' ms' H' σ' E' S' SE' q' => ⟨ms', env', h', S', SE', q'⟩)
    | false =>
      rw [if_neg (by decide)] at p ⊢
      exact PostS.atNx (c := ⟨ms1, h1, H1⟩) S1 SE1 p
end
end Dn

/-! text DnO -/
set_option maxHeartbeats 1000000
set_option Elab.async false
set_option linter.all false
set_option maxRecDepth 100000
set_option autoImplicit false
/-! Dn, part O: list comprehensions. -/
namespace Dn
open PySem L2
section
variable {X : Cx} {W : WX}
abbrev WF : WX := fun _ _ _ _ => False
theorem takes_blk (X : Cx) (s : Shared) (H : Hp) (scope : Scope) (cenv : PySem.Env) (fp : List Addr) : Takes (X.blk s H scope cenv fp) WF := fun u s' ⟨a, B, sI, pins, σ, H, cls, d, e, I, nb, up, sky, na, os, ag, w⟩ => w
theorem wipe_wipe (σ : St) : ∀ vs : List Nat, L2.wipe (L2.wipe σ vs) vs = L2.wipe σ vs := fun vs => by
  refine List.ext_getElem? fun i => ?_
  by_cases z : i ∈ vs
  · rw [wipe_at _ z, wipe_at _ z, wipe_length]
  · rw [wipe_off _ z, wipe_off _ z]
where
  wipe_off : ∀ (σ : St) {vs : List Nat} {i : Nat}, i ∉ vs → (L2.wipe σ vs)[i]? = σ[i]? := fun σ vs i h => by
    induction vs with
    | nil => rfl
    | cons v vs ih =>
      unfold L2.wipe
      rw [List.getElem?_set_ne (fun z => h (by rw [z]; exact List.mem_cons_self)), ih fun z => h (List.mem_cons_of_mem _ z)]
  wipe_at : ∀ (σ : St) {vs : List Nat} {i : Nat}, i ∈ vs → (L2.wipe σ vs)[i]? = if i < σ.length then some none else none := fun σ vs i h => by
    induction vs with
    | nil => simp at h
    | cons v vs ih =>
      unfold L2.wipe
      rw [List.getElem?_set]
      by_cases e : v = i
      · subst e
        rw [if_pos rfl, wipe_length]
      · rw [if_neg e]
        rcases List.mem_cons.mp h with h | h
        · exact absurd h.symm e
        · exact ih h
theorem Env.wipe_some {env : Env} {i : Nat} {d : D} : ∀ {vs : List Nat}, (Dn.wipe env vs)[i]? = some (some d) → env[i]? = some (some d) ∧ i ∉ vs
  | [], h => ⟨h, by simp⟩
  | v :: vs, h => by
    unfold Dn.wipe at h
    rw [List.getElem?_set] at h
    by_cases e : v = i
    · rw [if_pos e] at h
      split at h <;> cases h
    · rw [if_neg e] at h
      obtain ⟨h1, h2⟩ := Env.wipe_some h
      refine ⟨h1, fun z => ?_⟩
      rcases List.mem_cons.mp z with z | z
      · exact e z.symm
      · exact h2 z
theorem Env.wipe_len (env : Env) : ∀ vs : List Nat, (Dn.wipe env vs).length = env.length
  | [] => rfl
  | v :: vs => by
    unfold Dn.wipe
    rw [List.length_set, Env.wipe_len env vs]
theorem simE_wipe {c : Cz} {env : Env} {σ : St} (vs : List Nat) (SE : simE X c env σ) : simE X c (Dn.wipe env vs) (L2.wipe σ vs) := by
  refine ⟨by rw [Env.wipe_len, wipe_length]; exact SE.1, fun i d h => ?_⟩
  obtain ⟨h1, h2⟩ := Env.wipe_some h
  obtain ⟨v, e, r⟩ := SE.2 i d h1
  exact ⟨v, by rw [wipe_wipe.wipe_off σ h2]; exact e, r⟩
/-- the end of a comprehension -/
noncomputable def fin (h1 : Hh) (r : R Unit) : R D := match r with
  | .ok _ h2 => (match h2[h1.length]? with
    | some (some (.lst ys)) => trim h1 (.ok (.lst ys) (h2.set h1.length none))
    | _ => .no)
  | _ => .no
theorem tLc_of {tg iter : Expr} {wi : TI} {f : DI} {g : DG} {t : DT} {a : DE} {vs : List Nat} (h2 : ∀ σ H R, tG X W (WalkOk X) f σ H R → wi σ H R) (σ : St) (H : Hp) (Q : VK) (q : tG X W (rep X) (eComp f g t a vs) σ H Q) :
    tLc wi (tGt X vs g) (tG X WF eq_ t) (tG X WF (rep X) a) vs σ H Q := by
  have q' : tG X W (rep X) (fun env h => (f env h).bind fun xs h => fin h (compL h.length (turnC g t a (Dn.wipe env vs)) xs (h ++ [some (.lst [])]))) σ H Q := q
  refine h2 σ H _ (tG.bind q' fun env xs h1 ms1 H1 J S1 SE1 wk p => ?_)
  obtain ⟨G, Y, wlk, hGY⟩ := wk
  intro D hD
  have L1 : ms1.length = h1.length := S1.len
  have E2 := Ext.new_ (oo := some (O.lst [])) (u := .lst []) S1 hD
  have S2 : simH X ⟨ms1 ++ [D], h1 ++ [some (.lst [])], upd H1 D (.lst [])⟩ := SimH.new_ S1 hD ⟨[], upd_same, RepL.nil, by decide⟩
  have hm : (ms1 ++ [D])[h1.length]? = some D := by
    rw [← L1, List.getElem?_append_right (Nat.le_refl _)]
    simp
  refine lc_it wlk (fun i H => ∃ ms h, Ext ⟨ms1, h1, H1⟩ ⟨ms, h, H⟩ ∧ simH X ⟨ms, h, H⟩ ∧ ms[h1.length]? = some D ∧ PostX X W (rep X) ⟨ms1, h1, H1⟩ σ Q (fin h1 (compL h1.length (turnC g t a (Dn.wipe env vs)) (xs.drop i) h)))
    ⟨ms1 ++ [D], _, E2, S2, hm, p⟩ (fun i H _ q => ?_) (fun i x H H' hi q y => ?_) (fun H q => ?_)
  · obtain ⟨ms, h, E, S, _⟩ := q
    exact (hGY _ E S).1
  · obtain ⟨ms, h, E, S, em, q⟩ := q
    obtain ⟨e1, d, hd, rd⟩ := (hGY _ E S).2 i x H' hi y
    subst e1
    have ed : xs.drop i = d :: xs.drop (i + 1) := by
      rw [List.drop_eq_getElem_cons hi]
      congr 1
      have := List.getElem?_eq_getElem hi
      rw [hd] at this
      exact (Option.some.inj this).symm
    rw [ed] at q
    unfold compL turnC at q
    have SE2 := simE_wipe vs (SE1.ext S1 E)
    refine ⟨ms, Dn.wipe env vs, h, d, S, SE2, rd, ?_⟩
    cases e2 : g d (Dn.wipe env vs) h with
    | exc _ _ => simp only [e2, R.bind_exc] at q; exact q
    | no => simp only [e2, R.bind_no] at q; exact q
    | ok env' h' =>
      simp only [e2, R.bind_ok] at q
      intro ms' H' σ' E' S' SE' ew
      refine ⟨by rw [ew, wipe_wipe], ⟨ms', env', h', S', SE', ?_⟩⟩
      cases e3 : t env' h' with
      | exc _ _ => simp only [e3, R.bind_exc] at q; exact False.elim q
      | no => simp only [e3, R.bind_no] at q; exact q
      | ok b h3 =>
        simp only [e3, R.bind_ok] at q
        intro ms3 H3 b' E3 S3 eb
        have eb' : b = b' := eb
        subst eb'
        cases b with
        | false =>
          simp only [Bool.false_eq_true, if_false] at q ⊢
          have E13 := (E.trans S1 E').trans S1 E3
          exact ⟨ms3, h3, E13, S3, E3.ms (E'.ms em), q⟩
        | true =>
          simp only [if_true] at q ⊢
          refine ⟨ms3, env', h3, S3, SE'.ext S' E3, ?_⟩
          cases e4 : a env' h3 with
          | exc _ _ => simp only [e4, R.bind_exc] at q; exact False.elim q
          | no => simp only [e4, R.bind_no] at q; exact q
          | ok yd h4 =>
            simp only [e4, R.bind_ok] at q
            intro ms4 H4 yv E4 S4 ry
            have E14 := ((E.trans S1 E').trans S1 E3).trans S1 E4
            have em4 : ms4[h1.length]? = some D := E4.ms (E3.ms (E'.ms em))
            cases e5 : h4[h1.length]? with
            | none => simp only [e5] at q; exact False.elim q
            | some o =>
              cases o with
              | none => simp only [e5] at q; exact False.elim q
              | some o =>
                cases o <;> simp only [e5] at q <;> first | exact False.elim q | skip
                case lst acc =>
                  by_cases z : acc.length < big
                  · rw [if_pos z] at q
                    obtain ⟨b, eb, us, qq, rs, zz⟩ := S4.live _ _ e5
                    have eb2 : ms4[h1.length]? = some b := eb
                    rw [em4] at eb2
                    cases eb2
                    have rl : repL X ⟨ms4, h4, H4⟩ (acc ++ [yd]) (us ++ [yv]) := RepL.append rs (RepL.cons ry RepL.nil)
                    obtain ⟨E5, S5⟩ := put_lst (c := ⟨ms4, h4, H4⟩) S4 e5 em4 rl (by simp; omega)
                    exact ⟨us, qq, by rw [← repL_len rs, ← big_eq]; exact z, ms4, _, E14.trans S1 E5, S5, em4, q⟩
                  · rw [if_neg z] at q
                    exact False.elim q
  · obtain ⟨ms, h, E, S, em, q⟩ := q
    rw [List.drop_length] at q
    have q2 : PostX X W (rep X) ⟨ms1, h1, H1⟩ σ Q (match h[h1.length]? with
      | some (some (.lst ys)) => trim h1 (.ok (.lst ys) (h.set h1.length none))
      | _ => .no) := q
    split at q2
    · rename_i ys hn
      have p3 := Post.trim (c := ⟨ms1, h1, H1⟩) S1 q2
      obtain ⟨b, eb, us, qq, rs, zz⟩ := S.live _ _ hn
      have eb2 : ms[h1.length]? = some b := eb
      rw [em] at eb2
      cases eb2
      have EF : Ext ⟨ms, h, H⟩ ⟨ms, h.set h1.length none, H⟩ := Ext.frz hn
      refine p3 ms H (.ref D) (E.trans S1 EF) (SimH.frz S hn) (rep_lst.mpr ⟨D, us, rfl, qq, fun m o hm2 hb => ?_, RepL.ext S EF _ _ rs, zz⟩)
      obtain ⟨z, hm3⟩ := frz_live hm2
      exact z (S.nd _ m D em hb)
    · exact False.elim q2
theorem den_comp {elt tg iter : Expr} {ifs : List Expr} {scope : Scope} {own : List (Str × Nat)} {pos : Pos} {f : DI} {g : DG} {t : DT} {a : DE} (hc : X.calm = true) (hN : X.N.Nodup) (hi : DenI X W tg iter f) (ok : BlkOk X.N X.env.scope scope own)
    (hg : ∀ (s : Shared) (H : Hp) (C : Addr) (cl : List (Str × Addr)) (fp : List Addr), DenG (X.blk s H scope (compEnvC scope cl C X.env) fp) (own.map fun p : Str × Nat => p.2) tg g)
    (ht : ∀ (s : Shared) (H : Hp) (C : Addr) (cl : List (Str × Addr)) (fp : List Addr), PTs (X.blk s H scope (compEnvC scope cl C X.env) fp) ifs (tG X WF eq_ t))
    (he : ∀ (s : Shared) (H : Hp) (C : Addr) (cl : List (Str × Addr)) (fp : List Addr), Den (X.blk s H scope (compEnvC scope cl C X.env) fp) WF elt a) (hs : ∀ x, foldedSetIterable iter X.env x = pure x := by intro _; rfl) :
    Den X W (.ListComp elt [⟨tg, iter, ifs, 0⟩] scope pos) (eComp f g t a (own.map fun p : Str × Nat => p.2)) := by
  obtain ⟨wi, h1, h2⟩ := hi
  have hg' : ∀ (s : Shared) (H : Hp) (C : Addr) (cl : List (Str × Addr)) (fp : List Addr), PG (X.blk s H scope (compEnvC scope cl C X.env) fp) tg (tGt X (own.map fun p : Str × Nat => p.2) g) := hg
  have he' : ∀ (s : Shared) (H : Hp) (C : Addr) (cl : List (Str × Addr)) (fp : List Addr), PE (X.blk s H scope (compEnvC scope cl C X.env) fp) elt (tG X WF (rep X) a) := he
  exact PE.weak (pe_lc hc hN h1 ok hg' ht he' hs) fun σ H Q q => tLc_of h2 (tg := tg) (iter := iter) σ H Q q
/-- name = [..] on one line -/
theorem dens_setLc (i : Nat) {y : Str} {py : Pos} {elt tg iter : Expr} {ifs : List Expr} {scope : Scope} {own : List (Str × Nat)} {pos spos : Pos} {f : DI} {g : DG} {t : DT} {a : DE} (hc : X.calm = true) (hN : X.N.Nodup) (hi : DenI X W tg iter f) (ok : BlkOk X.N X.env.scope scope own)
    (hg : ∀ (s : Shared) (H : Hp) (C : Addr) (cl : List (Str × Addr)) (fp : List Addr), DenG (X.blk s H scope (compEnvC scope cl C X.env) fp) (own.map fun p : Str × Nat => p.2) tg g)
    (ht : ∀ (s : Shared) (H : Hp) (C : Addr) (cl : List (Str × Addr)) (fp : List Addr), PTs (X.blk s H scope (compEnvC scope cl C X.env) fp) ifs (tG X WF eq_ t))
    (he : ∀ (s : Shared) (H : Hp) (C : Addr) (cl : List (Str × Addr)) (fp : List Addr), Den (X.blk s H scope (compEnvC scope cl C X.env) fp) WF elt a)
    (hy : X.N[i]? = some y := by rfl) (hyl : X.env.scope.names.lookup y = some .local := by rfl) (hsw : swapsWith (.ListComp elt [⟨tg, iter, ifs, 0⟩] scope pos) (some (.Name y py)) spos.line X.env = pure true := by rfl) (hs : ∀ x, foldedSetIterable iter X.env x = pure x := by intro _; rfl) :
    DenS X W (.Assign [.Name y py] (.ListComp elt [⟨tg, iter, ifs, 0⟩] scope pos) spos) (sSet (eComp f g t a (own.map fun p : Str × Nat => p.2)) (Dn.gName i)) := by
  obtain ⟨wi, h1, h2⟩ := hi
  have hg' : ∀ (s : Shared) (H : Hp) (C : Addr) (cl : List (Str × Addr)) (fp : List Addr), PG (X.blk s H scope (compEnvC scope cl C X.env) fp) tg (tGt X (own.map fun p : Str × Nat => p.2) g) := hg
  have he' : ∀ (s : Shared) (H : Hp) (C : Addr) (cl : List (Str × Addr)) (fp : List Addr), PE (X.blk s H scope (compEnvC scope cl C X.env) fp) elt (tG X WF (rep X) a) := he
  refine PS.weak (ps_setLc hc hN hy hyl hsw h1 ok hg' ht he' hs) fun T σ H q => ?_
  refine tLc_of h2 (tg := tg) (iter := iter) σ H _ (tS.thenS q fun env d h3 ms3 H3 v S3 SE3 r p => ?_)
  exact PostS.atNx (c := ⟨ms3, h3, H3⟩) S3 (simE_set SE3 r) p
end
end Dn

/-! text DnP -/
set_option maxHeartbeats 1000000
set_option Elab.async false
set_option linter.all false
set_option maxRecDepth 100000
set_option autoImplicit false
/-! Dn, part P: a target with a star at its end. -/
namespace Dn
open PySem L2 PySem.Spec PySem.Calls PyProof.Rows
section
variable {X : Cx} {W : WX}
/-- what n names and a star take of a tuple -/
theorem star_items {A : Around} {s : Shared} {E : Value → Shared → Prop} {prog : Program} {w : World} {l : Addr} {its : Array Value} {n : Nat} {Q : List Value → Shared → Prop} (hd : A.handled = none) (tu : IsTup s.heap l its) (hn : n ≤ its.size) (hz : its.size ≤ sizeLine)
    (k : ∀ (h' : Heap) (tk : Nat), (∀ b o, s.heap.get? b = some o → h'.get? b = some o) → Q (its.toList.take n ++ [.ref h'.objs.size]) { s with heap := h'.push { cls := .type "list", data := .seq (its.toList.drop n).toArray }, toks := tk }) :
    wpAny (model prog w) A (unpackItems (.ref l) (n + 1) (some n)) Q E s := by
  have there : ∃ o, s.heap.get? l = some o := by
    obtain ⟨o, e, _⟩ := tu
    exact ⟨o, e⟩
  have old : l < s.heap.objs.size := there.elim fun _ e => Heap.lt_size e
  have apart : l ≠ s.heap.objs.size := Nat.ne_of_lt old
  unfold unpackItems notIterableAtAll
  refine wpAny_bind (wpAny_bind (wpAny_specialOf tu.typeIs slot_tuple_iter.lookup (wpAny_pure ?_)))
  rw [if_neg Bool.false_ne_true]
  refine wpAny_bind (wpAny_holding (iter_tuple tu ?_))
  refine wpAny_bind (wpAny_holding (draw_tuple (i := 0) apart n _ _ ⟨_, Heap.get?_push_size _ rfl, rfl, rfl⟩ (tu.push _) (by rw [Nat.zero_add]; exact hn) fun g1 at1 same1 => ?_))
  have tu1 : IsTup g1 l its := IsTup.extBut (tu.push _) same1.extBut apart
  rw [Nat.zero_add] at at1
  have len1 : ((its.toList.drop 0).take n).length = n := by
    rw [List.drop_zero, List.length_take, Array.length_toList]
    exact Nat.min_eq_left hn
  have atI : ∃ o, g1.get? s.heap.objs.size = some o := by
    obtain ⟨o, e, _⟩ := id at1
    exact ⟨o, e⟩
  have atL : ∃ o, g1.get? l = some o := by
    obtain ⟨o, e, _⟩ := id tu1
    exact ⟨o, e⟩
  have enough : ¬ ((its.toList.drop 0).take n).length < n := by
    rw [len1]
    exact Nat.lt_irrefl n
  show wpAny _ _ (if ((its.toList.drop 0).take n).length < n then _ else _) _ _ _
  rw [if_neg enough]
  have turns := Walks.tuple (prog := prog) (w := w) (A := A.in1) hd s.heap.objs.size l apart its
  refine wpAny_bind (wpAny_holding (PySem.W.kun_collect (s := { s with heap := g1 }) (k := n) (T := "tuple_iterator") (.inr (.inr (.inr rfl))) turns (fun _ _ z => z.1.typeIs) hn ⟨at1, tu1⟩ (atI.elim fun _ e => Heap.lt_size e) (atL.elim fun _ e => Heap.lt_size e) (fun g2 tk keep2 => ?_) hz))
  have all0 : n + 1 - 1 - n = 0 := by omega
  show wpAny _ _ (if (its.toList.drop n).length < n + 1 - 1 - n then _ else _) _ _ _
  rw [all0, if_neg (Nat.not_lt_zero _)]
  show wpAny _ _ (newList ((its.toList.drop n).take ((its.toList.drop n).length - 0)) >>= fun d => pure ((its.toList.drop 0).take n ++ [d] ++ (its.toList.drop n).drop ((its.toList.drop n).length - 0))) _ _ _
  rw [Nat.sub_zero, List.take_length, List.drop_length, List.drop_zero]
  refine wpAny_bind (wpAny_newList (wpAny_pure ?_) ?_)
  · rw [List.append_nil]
    exact k g2 tk fun b o e => keep2 b o (Nat.ne_of_lt (Heap.lt_size e)) (same1.extBut b o (Nat.ne_of_lt (Heap.lt_size e)) (Heap.get?_push_of_some _ e))
  · rw [List.length_drop, Array.length_toList]
    exact Nat.le_trans (Nat.sub_le _ _) hz
theorem dengs_star {vs : List Nat} {e : Expr} {p : Pos} {es : List Expr} {gs : DGs} (h : DenGs X vs (e :: es) gs) (he : (assignEach (.Starred e p :: es) X.env).map (·.2) = (assignEach (e :: es) X.env).map (·.2) := by rfl) : DenGs X vs (.Starred e p :: es) gs :=
  ⟨fun pins s σ H us ws Q I r q => by
    rw [he]
    exact h.run pins s σ H us ws Q I r q⟩
theorem deng_star {vs : List Nat} {es : List Expr} {k n : Nat} {gs : DGs} {pos : Pos} (hc : X.calm = true) (h : DenGs X vs es gs) (hn : (assignEach es X.env).length = n + 1 := by rfl) (hst : (assignEach es X.env).findIdx? (·.1) = some n := by rfl) :
    DenG X vs (.Tuple es k pos) (Dn.gStar n gs) := by
  refine ⟨fun pins s σ H v u Q I r t => ?_⟩
  obtain ⟨ms, env, hh, d, S, SE, rd, p⟩ := t
  cases d <;> first | exact False.elim p | skip
  case tup ds =>
    obtain ⟨a, us, rfl, q, rs, z⟩ := rep_tup.mp rd
    have eu : u = Value.ref a := r
    subst eu
    obtain ⟨its, rv, tu, hz⟩ := I.tuple q
    by_cases l : n ≤ ds.length
    · simp only [Dn.gStar, if_pos l] at p
      rw [assign_Tuple]
      have lu := repL_len rs
      have li := rv.length
      refine wpAny_bind (wpAny_standAt ?_)
      unfold unpack
      rw [hn, hst]
      refine wpAny_bind (wpAny_holding (star_items (I.ok.hd hc) tu (by rw [List.size_toArray, ← li, ← lu]; exact l) (by rw [List.size_toArray, ← li]; exact hz) fun h' tk keep => ?_))
      have I1 : Inv X pins σ H { s with heap := h', toks := tk } := I.kept keep
      have rdrop : Vals (us.drop n) (its.drop n) := by
        have : ∀ (n : Nat) {xs : List V} {ys : List Value}, Vals xs ys → Vals (xs.drop n) (ys.drop n) := by
          intro n
          induction n with
          | zero => intro xs ys q; simpa using q
          | succ n ih =>
            intro xs ys q
            cases q with
            | nil => exact .nil
            | cons q1 q2 => simpa using ih q2
        exact this n rv
      have rtake : Vals (us.take n) (its.take n) := by
        have : ∀ (n : Nat) {xs : List V} {ys : List Value}, Vals xs ys → Vals (xs.take n) (ys.take n) := by
          intro n
          induction n with
          | zero =>
            intro xs ys q
            rw [List.take_zero, List.take_zero]
            exact .nil
          | succ n ih =>
            intro xs ys q
            cases q with
            | nil => exact .nil
            | cons q1 q2 =>
              rw [List.take_succ_cons, List.take_succ_cons]
              exact .cons q1 (ih q2)
        exact this n rv
      have hfree : H h'.objs.size = none := I1.hok.fresh (Nat.le_refl _)
      have I2 := I1.laid (a := h'.objs.size) (o := .lst (us.drop n)) (h' := h'.push { cls := .type "list", data := .seq (its.drop n).toArray }) (t' := tk) (fun b o e => Heap.get?_push_of_some _ e) (Nat.le_refl _)
        (show ObjOk X.prog X.w _ _ _ (.lst (us.drop n)) from ⟨by rw [List.length_drop]; omega, its.drop n, 0, rdrop, Heap.get?_push_size _ rfl⟩)
      have E := Ext.laid (ms := ms) (h := hh) (o := HO.lst (us.drop n)) hfree
      have S2 := SimH.laid (o := HO.lst (us.drop n)) S hfree
      have rl : repL X ⟨ms, hh, upd H h'.objs.size (.lst (us.drop n))⟩ (ds.take n ++ [.lst (ds.drop n)]) (us.take n ++ [V.ref h'.objs.size]) :=
        RepL.append (RepL.take n (RepL.ext S E _ _ rs)) (RepL.cons (new_lst (c := ⟨ms, hh, H⟩) S hfree (RepL.drop n rs) (by rw [List.length_drop]; omega)) RepL.nil)
      have go := h.run pins _ σ _ (us.take n ++ [V.ref h'.objs.size]) (its.take n ++ [Value.ref h'.objs.size]) Q I2 (rtake.append (.cons rfl .nil)) ⟨ms, env, hh, _, S2, SE.ext S E, rl, ?_⟩
      · simpa using go
      · cases e2 : gs (ds.take n ++ [.lst (ds.drop n)]) env hh with
        | ok env' h2 =>
          rw [e2] at p
          exact fun ms' H' σ' E' S' SE' ew => p ms' H' σ' (E.trans S E') S' SE' ew
        | exc _ _ => rw [e2] at p; exact p
        | no => rw [e2] at p; exact p
    · simp only [Dn.gStar, if_neg l] at p
end
end Dn

/-! text DnQ -/
set_option maxHeartbeats 1000000
set_option Elab.async false
set_option linter.all false
set_option maxRecDepth 100000
set_option autoImplicit false
/-! Dn, part Q: a def by its body. -/
namespace Dn
open PySem L2 PySem.Spec PyProof.Rows
/-- what holds of a def's context -/
structure CtxOk (X : Cx) (W : WX) (k : Nat) : Prop where
  room : Room k X.A
  gd : X.A.guards = some []
  tk : Takes X W
  po : PassesOwn (model X.prog X.w) X.A X.env X.xe
  calm : X.calm = true
  nd : X.N.Nodup
theorem CtxOk.units {X : Cx} {W : WX} {k : Nat} (c : CtxOk X W k) : X.A.units + 65 < cLine := by
  have := c.room.un
  omega
theorem CtxOk.units1 {X : Cx} {W : WX} {k : Nat} (c : CtxOk X W k) : X.A.units + 1 < cLine := by
  have := c.room.un
  omega
theorem CtxOk.units60 {X : Cx} {W : WX} {k : Nat} (c : CtxOk X W k) : X.A.units + 60 < cLine := by
  have := c.room.un
  omega
theorem CtxOk.blk {X : Cx} {W : WX} {k : Nat} (c : CtxOk X W k) (s : Shared) (H : Hp) (scope : Scope) (cenv : PySem.Env) (fp : List Addr) : CtxOk (X.blk s H scope cenv fp) WF k :=
  ⟨c.room, c.gd, takes_blk X s H scope cenv fp, PassesOwn.never, c.calm, c.nd⟩
theorem CtxOk.le {X : Cx} {W : WX} {j k : Nat} (c : CtxOk X W k) (h : j ≤ k) : Room j X.A := by
  obtain ⟨r1, r2, r3⟩ := c.room
  exact ⟨r1, by omega, by omega⟩
section
variable {P : Program} {w : World} {K : PySem.W.Frag} {mg : Str → Option Value} {base : Heap} {k : Nat} {f : Addr} {name qual : Str} {params : Arguments} {body : List Stmt} {scope : Scope} {dV kV doc pm cdv ct oc : Value} {an od : Option Addr} {osl : Array (Option Value)} {N ps : List Str} {g : DS}
theorem start_sim {X : Cx} {c : Cz} {ds : List D} {vs : List V} (hX : X.N = N) (r : repL X c ds vs) : simE X c (Dn.start N.length ds) (L2.start N vs) := by
  have hl := repL_len r
  refine ⟨by unfold Dn.start L2.start; simp [hl], fun i d h => ?_⟩
  unfold Dn.start at h
  have hi : i < ds.length := by
    by_cases q : i < ds.length
    · exact q
    · rw [List.getElem?_append_right (by simpa using q)] at h
      rw [List.getElem?_replicate] at h
      split at h <;> cases h
  rw [List.getElem?_append_left (by simpa using hi), List.getElem?_map] at h
  obtain ⟨e, e1, e2⟩ := Option.map_eq_some_iff.mp h
  cases e2
  obtain ⟨v, ev, rv⟩ := RepL.get r e1
  refine ⟨v, ?_, rv⟩
  unfold L2.start
  rw [List.getElem?_append_left (by rw [List.length_map, ← hl]; exact hi), List.getElem?_map, ev]
  rfl
theorem fnDen_of (row : K.lookup f = some ⟨oc, od, .func (PySem.W.fnOf name qual params body scope dV kV doc pm an cdv ct), osl⟩) (coded : PySem.W.codeIn K cdv qual = true) (sc : FnScope N ps scope)
    (does : ∀ (A : Around) (outer : List PySem.Env) (s : Shared) (H : Hp) (E : XK), CtxOk (cxOf (L2.CX P w) P w K mg base N qual scope f cdv A outer s H E) (WE E) k →
      DenSs (cxOf (L2.CX P w) P w K mg base N qual scope f cdv A outer s H E) (WE E) body g) :
    FnDen P w K mg base (k + 1) f (PySem.W.fnOf name qual params body scope dV kV doc pm an cdv ct) ps (run N.length g) := by
  refine ⟨fun A outer s H args us vs ds ms h Q E room hG e0 bind rel hlen SM RL p => ?_⟩
  have old : ∀ b o, base.get? b = some o → s.heap.get? b = some o := fun b o e => (e0.bs b o e).1
  have inK : K.In s.heap := e0.mod.kin.keeps old
  have free : s.heap.NoLimit := e0.mod.nolimit.keeps old
  have kinds : ∀ y ∈ ps.zip us, scope.names.lookup y.1 = some .local ∨ (scope.names.lookup y.1 = some .cell ∧ ((cellsFrom (s.heap.objs.size + 1) scope.names []).lookup y.1).isSome = true) := by
    rintro ⟨y, u⟩ hy
    exact (sc.par y (List.of_mem_zip hy).1).imp id fun q => ⟨q, PySem.W.cellsFrom_some _ _ _ (.inl q)⟩
  refine codeAny_call_function (Room.depth room) (inK f _ row) rfl sc.co sc.gen rfl (PySem.W.codeRec_of inK coded) (bind _ _ _ _ ?_)
  refine wpAny_newFunctionEnv_cells sc.kind kinds ?_
  rintro env rfl s1 made
  refine ⟨free.keeps made.toInCall.keep, codeAny_func ?_⟩
  have I : Inv (cxOf (L2.CX P w) P w K mg base N qual scope f cdv A outer s H E) [] (L2.start N vs) H s1 := inv_start sc room.hd e0 hlen rel made
  have ok : CtxOk (cxOf (L2.CX P w) P w K mg base N qual scope f cdv A outer s H E) (WE E) k :=
    ⟨Room.deeper room _, hG, takes_of rfl rfl rfl rfl, passes_of rfl, rfl, sc.nd⟩
  have back : ∀ {σ' : L2.St} {H' : Hp} {v : V} {u : Value} {s' : Shared}, Inv (cxOf (L2.CX P w) P w K mg base N qual scope f cdv A outer s H E) [] σ' H' s' → RelV v u → Q v H' → CE outer P w H s Q u s' :=
    fun {σ' H' v u s'} J rv q => ⟨v, H', J.os, J.bare, J.base, J.hok, rv, q⟩
  have want : tS (cxOf (L2.CX P w) P w K mg base N qual scope f cdv A outer s H E) (WE E) g { nx := fun _ H' => Q .non H', rt := Q } (L2.start N vs) H := by
    refine ⟨ms, Dn.start N.length ds, h, SM, start_sim rfl RL, ?_⟩
    unfold run at p
    cases e : g (Dn.start N.length ds) h with
    | nx env' h' =>
      rw [e] at p
      exact fun ms' H' σ' E' S' _ => p ms' H' .non E' S' (by unfold Rep; rfl)
    | rt d h' =>
      rw [e] at p
      exact p
    | bk _ _ =>
      rw [e] at p
      exact False.elim p
    | ct _ _ =>
      rw [e] at p
      exact False.elim p
    | exc x env' h' =>
      rw [e] at p
      exact fun ms' H' σ' cls dd E' S' _ q => p ms' H' cls dd E' S' q
    | no =>
      rw [e] at p
      exact p
  refine wpAny_mono ((does A outer s H E ok).run [] s1 (L2.start N vs) H _ I want) (fun fl s' ended => ?_) fun e s' z => z
  match fl, ended with
  | .ret u, ⟨v, σ', H', J, rv, q⟩ => exact back J rv q
  | .next, ⟨σ', H', J, q⟩ => exact back (v := V.non) (u := Value.none) J rfl q
  | .brk, ⟨_, _, _, q⟩ => exact False.elim q
  | .cont, ⟨_, _, _, q⟩ => exact False.elim q
end
end Dn

/-! text DnR -/
set_option maxHeartbeats 1000000
set_option Elab.async false
set_option linter.all false
set_option maxRecDepth 100000
set_option autoImplicit false
/-! Dn, part R: a law's end. -/
namespace Dn
open PySem L2 PySem.Spec PyProof.Rows
/-- what a law's call is to do -/
abbrev Told (s : Shared) (r : Result) (s' : Shared) : Prop := r = .ok (.ret (.bool true)) ∧ OldK s.heap s'.heap ∧ s'.os = s.os ∧ AllBare s'.gens
section
variable {P : Program} {w : World} {K : PySem.W.Frag} {mg mb : Str → Option Value} {k : Nat} {fa a : Addr} {fd : FuncData} {x : Str} {F : Fn} {s : Shared} {vs : List Value} {ns : List Int}
/-- over an abstract heap in which at most the script is tracked, known to the object -/
theorem law_core {H : Hp} (inK : K.In s.heap) (gl : s.heap.Ns mainGlobals mg) (bl : s.heap.Ns builtinsNs mb) (bls : ∀ y : Str, y ≠ "__name__" → mb y = bootBuiltins y) (free : s.heap.NoLimit) (bare : s.gens = #[])
    (at_ : s.heap.get? a = some { cls := .type "list", data := .seq vs.toArray }) (room : Room k callerA)
    (B : ∀ base : Heap, K.In base → base.Ns mainGlobals mg → FnDen P w K mg base k fa fd [x] F) (bind : ∀ (s : Shared) (u : Value), BindsTo s fd ⟨[u], []⟩ [(x, u)])
    (only : ∀ b u, H b = some u → b = a ∧ K.lookup a = none ∧ ∃ o xs, u = .frz o (.lst xs)) (hok : HOk P w H s.heap) (script : Rep K w mg ⟨[], [], H⟩ (.scr ns) (.ref a)) (does : ∃ h, F [.scr ns] [] = .ok (.bl true) h) :
    codeAny (model P w) callerA (.call (.ref fa) ⟨[.ref a], []⟩) (Told s) s := by
  have seen : ∀ {b : Addr} {o : Obj}, s.heap.get? b = some o → (H b ≠ none → False) → (hidT s.heap H).get? b = some o := fun {b o} e n => hidT_get e (by
    cases q : H b with
    | none => rfl
    | some u => exact (n (by rw [q]; exact fun z => nomatch z)).elim)
  have nsSeen : ∀ {b : Addr} {m : Str → Option Value}, s.heap.Ns b m → (hidT s.heap H).Ns b m := by
    rintro b m ⟨o, es, ep, e, d, r⟩
    refine ⟨o, es, ep, seen e fun n => ?_, d, r⟩
    cases q : H b with
    | none => exact n q
    | some u =>
      obtain ⟨rfl, _⟩ := only b u q
      rw [at_] at e
      cases e
      cases d
  have inB : K.In (hidT s.heap H) := fun b o e => seen (inK b o e) fun n => by
    cases q : H b with
    | none => exact n q
    | some u =>
      obtain ⟨rfl, z, _⟩ := only b u q
      rw [z] at e
      cases e
  have md : Mod K mg (hidT s.heap H) := ⟨inB, nsSeen gl, ⟨mb, nsSeen bl, bls⟩, free.elim fun mc z => ⟨mc, nsSeen z.1, z.2⟩⟩
  have e0 : Env0 P w K mg (hidT s.heap H) callerA [] s H :=
    ⟨rfl, md, fun _ _ e => of_hidT e, Nat.le_of_eq (hidT_size _ _), trivial, fun b z => (List.not_mem_nil (show b ∈ ([] : List Addr) from z)).elim, hok, .of_eq bare⟩
  have S0 : SimH K w mg ⟨[], [], H⟩ := by
    refine ⟨rfl, fun i j b z => ?_, fun n b z => ?_, fun n o z => ?_⟩
    · exact absurd z (by simp)
    · exact absurd z (by simp)
    · exact absurd z (by simp)
  have rl : RepL K w mg ⟨[], [], H⟩ [.scr ns] [.ref a] := RepL.cons script RepL.nil
  obtain ⟨h1, eF⟩ := does
  have p : Post K w mg (Rep K w mg) (WE fun _ _ _ => False) ⟨[], [], H⟩ [] (fun v _ => v = .bl true) (F [.scr ns] []) := by
    rw [eF]
    intro ms' H' b _ _ r
    unfold Rep at r
    exact r
  have go := (B _ inB (nsSeen gl)).run callerA [] s H ⟨[.ref a], []⟩ [.ref a] [.ref a] [.scr ns] [] [] _ _ room rfl e0 (bind s (.ref a)) (.cons rfl .nil) rfl S0 rl p
  refine codeAny_mono go fun res s' ended => ?_
  match res, ended with
  | .error e, z =>
    obtain ⟨_, _, _, _, _, _, _, _, _, _, _, _, q⟩ := z
    exact q.elim
  | .ok .next, z => exact z.elim
  | .ok .brk, z => exact z.elim
  | .ok .cont, z => exact z.elim
  | .ok (.ret u), z =>
    obtain ⟨v, H', os, bare', un, hok', r', q⟩ := z
    have ev : v = .bl true := q
    subst ev
    have eu : u = Value.bool true := r'
    subst eu
    refine ⟨rfl, OldK.of_keep fun b o e => ?_, os, bare'⟩
    cases q : H b with
    | none => exact un.keep b o e q (fun z => List.not_mem_nil (show b ∈ ([] : List Addr) from z)) (by simp)
    | some u =>
      obtain ⟨_, _, ob, xs, rfl⟩ := only b u q
      have l1 := (hok b _ q).1
      have l2 := (hok' b _ (un.frzs b ob _ q)).1
      rw [e] at l1
      cases l1
      exact l2
theorem law_den (inK : K.In s.heap) (gl : s.heap.Ns mainGlobals mg) (bl : s.heap.Ns builtinsNs mb) (bls : ∀ y : Str, y ≠ "__name__" → mb y = bootBuiltins y) (free : s.heap.NoLimit) (bare : s.gens = #[])
    (at_ : s.heap.get? a = some { cls := .type "list", data := .seq vs.toArray }) (wholes : IntsAre vs ns) (size : ns.length ≤ sizeLine) (room : Room k callerA)
    (B : ∀ base : Heap, K.In base → base.Ns mainGlobals mg → FnDen P w K mg base k fa fd [x] F) (bind : ∀ (s : Shared) (u : Value), BindsTo s fd ⟨[u], []⟩ [(x, u)]) (does : ∃ h, F [.scr ns] [] = .ok (.bl true) h) :
    codeAny (model P w) callerA (.call (.ref fa) ⟨[.ref a], []⟩) (Told s) s := by
  have rv := vals_ints wholes
  have len := wholes.length
  have none_ : ∀ {u : HO}, ¬ (none : Option HO) = some u := fun z => nomatch z
  cases at2 : K.lookup a with
  | some o =>
    have e := inK a o at2
    rw [at_] at e
    cases e
    refine law_core (H := fun _ => none) inK gl bl bls free bare at_ room B bind (fun b u z => (none_ z).elim) (fun b u z => (none_ z).elim) ?_ does
    unfold Rep
    refine ⟨a, rfl, by rw [big_eq]; exact size, .inr fun H => .inr ⟨_, vs.toArray, _, at2, rfl, rfl, rfl, ?_, by simpa using rv⟩⟩
    rw [List.size_toArray, len]
    exact size
  | none =>
    refine law_core (H := fun b => if b = a then some (.frz { cls := .type "list", data := .seq vs.toArray } (.lst (ns.map V.int))) else none) inK gl bl bls free bare at_ room B bind (fun b u z => ?_) (fun b u z => ?_) ?_ does
    · by_cases e : b = a
      · refine ⟨e, at2, ?_⟩
        have z2 := (if_pos e).symm.trans z
        cases z2
        exact ⟨_, _, rfl⟩
      · exact nomatch (if_neg e).symm.trans z
    · by_cases e : b = a
      · have z2 := (if_pos e).symm.trans z
        cases z2
        rw [e]
        exact ⟨at_, by rw [List.length_map]; exact size, vs, _, rv, at_⟩
      · exact nomatch (if_neg e).symm.trans z
    · unfold Rep
      refine ⟨a, rfl, by rw [big_eq]; exact size, .inl ⟨.inr ⟨_, if_pos rfl⟩, fun n o z => ?_⟩⟩
      exact absurd z (by simp)
end
open PySem.W in
/-- a law over a head by facts -/
theorem walk_den {l : PySem.W.OpenLaw} {n k : Nat} {q : Program} {loose : List Str} {XP : (Str → Option Value) → Heap → Prop} {YP : World → Heap → Prop} {d : DefRec} {x : Str} {F : Fn}
    (most : l.most = some n) (most2 : n ≤ sizeLine) (dflt : d.params.defaults = []) (room : Room k callerA)
    (facts : ∀ (w : World) (mg : Str → Option Value) (fa : Addr) (h : Heap), YP w h → h.Ns mainGlobals mg → mg d.name = some (.ref fa) →
      ∃ (K : PySem.W.Frag) (fd : FuncData), K.In h ∧ (∀ (s : Shared) (u : Value), BindsTo s fd ⟨[u], []⟩ [(x, u)]) ∧ ∀ base : Heap, K.In base → base.Ns mainGlobals mg → FnDen l.prog w K mg base k fa fd [x] F)
    (does : ∀ ns : List Int, ns.length ≤ n → (∀ z ∈ ns, Builtin.Int.intBits z ≤ 1048576) → ∃ h, F [.scr ns] [] = .ok (.bl true) h) :
    PySem.W.WalkO q loose XP YP l.row.toRowW d [] (fun f vs => PySem.call f vs) := by
  refine Att.attach_callB most dflt fun w s₀ s₁ mg mb fa o pm cd doc a vs ns G Y _ _ _ named obj wholes few bits bare => ?_
  obtain ⟨K, fd, inK, bind, B⟩ := facts w mg fa _ Y G.T.g named
  exact law_den inK G.T.g G.T.b G.T.builtins G.T.nolimit bare obj wholes (Nat.le_trans few most2) room B bind (does ns few bits)
end Dn

/-! text DnS -/
set_option maxHeartbeats 1000000
set_option Elab.async false
set_option linter.all false
set_option maxRecDepth 100000
set_option autoImplicit false
/-! Dn, part S: rules by operator, facts of the head. -/
namespace Dn
open PySem L2
section
variable {X : Cx} {W : WX} {a b : Expr} {fa fb : DE} {pos : Pos}
theorem den_add (ha : Den X W a fa) (hb : Den X W b fb) : Den X W (.BinOp a .Add b pos) (e2 opAdd fa fb) := den_bin op_addAll opD_add ha hb
theorem den_sub (ha : Den X W a fa) (hb : Den X W b fb) : Den X W (.BinOp a .Sub b pos) (e2 opSub fa fb) := den_bin op_sub opD_sub ha hb
theorem op_mulA : OpR X (binaryOp .Mult) (fun x y H Q => (rI CMul fun i j => .int (i * j)) x y H Q ∨ rMulS x y H Q) := op_mul.or op_mulS
theorem den_mul (ha : Den X W a fa) (hb : Den X W b fb) : Den X W (.BinOp a .Mult b pos) (e2 opMul fa fb) := den_bin op_mulA opD_mul ha hb
theorem den_div (ha : Den X W a fa) (hb : Den X W b fb) : Den X W (.BinOp a .FloorDiv b pos) (e2 opDiv fa fb) := den_bin op_fdivW opD_div ha hb
theorem den_mod (ha : Den X W a fa) (hb : Den X W b fb) : Den X W (.BinOp a .Mod b pos) (e2 opMod fa fb) := den_bin op_mod opD_mod ha hb
theorem den_pow (ha : Den X W a fa) (hb : Den X W b fb) : Den X W (.BinOp a .Pow b pos) (e2 opPow fa fb) := den_bin op_pow opD_pow ha hb
theorem den_lt (ha : Den X W a fa) (hb : Den X W b fb) : Den X W (.Compare a [.Lt] [b] pos) (e2 cLt fa fb) := den_cmp op_ltA opD_lt ha hb (nomark _)
theorem den_le (ha : Den X W a fa) (hb : Den X W b fb) : Den X W (.Compare a [.LtE] [b] pos) (e2 cLe fa fb) := den_cmp op_leA opD_le ha hb (nomark _)
theorem den_gt (ha : Den X W a fa) (hb : Den X W b fb) : Den X W (.Compare a [.Gt] [b] pos) (e2 cGt fa fb) := den_cmp op_gtA opD_gt ha hb (nomark _)
theorem den_ge (ha : Den X W a fa) (hb : Den X W b fb) : Den X W (.Compare a [.GtE] [b] pos) (e2 cGe fa fb) := den_cmp op_geA opD_ge ha hb (nomark _)
theorem den_eq (hu : X.A.units + 65 < cLine) (ha : Den X W a fa) (hb : Den X W b fb) : Den X W (.Compare a [.Eq] [b] pos) (e2 cEq fa fb) := den_cmp (op_eqD (by omega)) opD_eq ha hb (nomark _)
theorem den_ne (hu : X.A.units + 65 < cLine) (ha : Den X W a fa) (hb : Den X W b fb) : Den X W (.Compare a [.NotEq] [b] pos) (e2 cNe fa fb) := den_cmp (op_neD (by omega)) opD_ne ha hb (nomark _)
theorem den_in (hu : X.A.units + 65 < cLine) (ha : Den X W a fa) (hb : Den X W b fb) (hm : behindInMarks .In b = false := by rfl) : Den X W (.Compare a [.In] [b] pos) (e2 cIn fa fb) := den_cmp (op_inAll hu) opD_in ha hb hm
theorem den_lele {d : Expr} {fd : DE} (ha : Den X W a fa) (hb : Den X W b fb) (hd : Den X W d fd) : Den X W (.Compare a [.LtE, .LtE] [b, d] pos) (eChain cLe cLe fa fb fd) := den_chain op_leA opD_le op_leA opD_le ha hb hd (by show behindInMarks .LtE d = false; exact nomark _)
end
/-- a comparison as a test -/
def tBl (a : DE) : DT := fun env h => (a env h).bind fun d h => match d with
  | .bl b => .ok b h
  | _ => .no
section
variable {X : Cx} {W : WX} {a b : Expr} {fa fb : DE} {pos : Pos}
theorem tBl_of {f : DE} {σ : St} {H : Hp} {Q : Bool → Hp → Prop} (t : tG X W eq_ (tBl f) σ H Q) : tG X W (rep X) f σ H (fun z H1 => ∃ k, z = .bl k ∧ Q k H1) :=
  tG.bind t fun env d h1 ms1 H1 v S1 SE1 r p => by
    cases d <;> first | exact False.elim p | skip
    case bl k => exact ⟨k, rep_bl.mp r, Post.at (c := ⟨ms1, h1, H1⟩) S1 p rfl⟩
theorem dent_cmp {op : CmpOp} {r : R2} {f : D → D → Hh → R D} (ho : OpR X (compareOp op) r) (hf : OpD (X := X) (W := W) r f) (ha : Den X W a fa) (hb : Den X W b fb) (hm : behindInMarks op b = false) : DenT X W (.Compare a [op] [b] pos) (tBl (e2 f fa fb)) :=
  PT.weak (pt_cmpR ho ha hb hm) fun σ H Q t => tOp_of hf σ H _ (tBl_of t)
theorem dent_lt (ha : Den X W a fa) (hb : Den X W b fb) : DenT X W (.Compare a [.Lt] [b] pos) (tBl (e2 cLt fa fb)) := dent_cmp op_ltA opD_lt ha hb (nomark _)
theorem dent_le (ha : Den X W a fa) (hb : Den X W b fb) : DenT X W (.Compare a [.LtE] [b] pos) (tBl (e2 cLe fa fb)) := dent_cmp op_leA opD_le ha hb (nomark _)
theorem dent_gt (ha : Den X W a fa) (hb : Den X W b fb) : DenT X W (.Compare a [.Gt] [b] pos) (tBl (e2 cGt fa fb)) := dent_cmp op_gtA opD_gt ha hb (nomark _)
theorem dent_ge (ha : Den X W a fa) (hb : Den X W b fb) : DenT X W (.Compare a [.GtE] [b] pos) (tBl (e2 cGe fa fb)) := dent_cmp op_geA opD_ge ha hb (nomark _)
theorem dent_eq (hu : X.A.units + 65 < cLine) (ha : Den X W a fa) (hb : Den X W b fb) : DenT X W (.Compare a [.Eq] [b] pos) (tBl (e2 cEq fa fb)) := dent_cmp (op_eqD (by omega)) opD_eq ha hb (nomark _)
theorem dent_ne (hu : X.A.units + 65 < cLine) (ha : Den X W a fa) (hb : Den X W b fb) : DenT X W (.Compare a [.NotEq] [b] pos) (tBl (e2 cNe fa fb)) := dent_cmp (op_neD (by omega)) opD_ne ha hb (nomark _)
theorem dent_in (hu : X.A.units + 65 < cLine) (ha : Den X W a fa) (hb : Den X W b fb) (hm : behindInMarks .In b = false := by rfl) : DenT X W (.Compare a [.In] [b] pos) (tBl (e2 cIn fa fb)) := dent_cmp (op_inAll hu) opD_in ha hb hm
theorem dent_lele {d : Expr} {fd : DE} (ha : Den X W a fa) (hb : Den X W b fb) (hd : Den X W d fd) : DenT X W (.Compare a [.LtE, .LtE] [b, d] pos) (tBl (eChain cLe cLe fa fb fd)) :=
  PT.weak (pt_chain op_leA op_leA ha hb hd (by show behindInMarks .LtE d = false; exact nomark _)) fun σ H Q t => tChain_of opD_le opD_le σ H _ (tBl_of t)
end
section
variable {P : Program} {w : World} {K : PySem.W.Frag} {mg : Str → Option Value} {h : Heap}
/-! ### constants of the module -/
theorem glb_int (X : K.In h) (G : h.Ns mainGlobals mg) {x : String} {i : Int} (c : (He.Fa.int (Str.ofString x) i).ok K = true) : Glb K w mg x (.int i) := by
  obtain ⟨t, e⟩ := He.int_ok X G c
  exact ⟨_, .int i, e, ⟨t, rfl⟩, fun c => by simp [Rep]⟩
theorem glb_str (X : K.In h) (G : h.Ns mainGlobals mg) {x s : String} (c : (He.Fa.str (Str.ofString x) (Str.ofString s)).ok K = true) (z : (S s).length ≤ 1000 := by decide) : Glb K w mg x (.str (S s)) := by
  obtain ⟨t, e⟩ := He.str_ok X G c
  exact ⟨_, .str (Str.ofString s), e, ⟨t, rfl⟩, fun c => by
    unfold Rep
    exact ⟨by rw [toS_S], Nat.le_trans z (by decide), S_codes s⟩⟩
/-- what a deep value without places stands as in a table -/
def DvOf (K : PySem.W.Frag) (w : World) (mg : Str → Option Value) (v : He.Dv) (d : D) : Prop := ∀ c, Rep K w mg c d (He.Dv.v K v)
theorem dv_int (i : Int) : DvOf K w mg (.int i) (.int i) := fun c => by simp [Rep, He.Dv.v]
theorem dv_str (s : String) (z : (S s).length ≤ 1000 := by decide) : DvOf K w mg (.str (Str.ofString s)) (.str (S s)) := fun c => by
  unfold Rep He.Dv.v
  exact ⟨by rw [toS_S], Nat.le_trans z (by decide), S_codes s⟩
inductive DvsOf (K : PySem.W.Frag) (w : World) (mg : Str → Option Value) : List He.Dv → List D → Prop where
  | nil : DvsOf K w mg [] []
  | cons {v : He.Dv} {d : D} {vs : List He.Dv} {ds : List D} (h : DvOf K w mg v d) (r : DvsOf K w mg vs ds) : DvsOf K w mg (v :: vs) (d :: ds)
theorem DvsOf.rep {vs : List He.Dv} {ds : List D} (r : DvsOf K w mg vs ds) (c : Cz) : RepL K w mg c ds (vs.map (He.Dv.v K)) := by
  induction r with
  | nil => exact RepL.nil
  | cons h _ ih => exact RepL.cons (h c) ih
theorem DvsOf.len {vs : List He.Dv} {ds : List D} (r : DvsOf K w mg vs ds) : vs.length = ds.length := by
  induction r with
  | nil => rfl
  | cons _ _ ih => simp [ih]
theorem glb_tup (X : K.In h) (G : h.Ns mainGlobals mg) {x : String} {vs : List He.Dv} {ds : List D} (c : (He.Fa.glo (Str.ofString x)).ok K = true) (t : He.tupB K (Str.ofString x) vs = true) (r : DvsOf K w mg vs ds) (z : ds.length ≤ 1000 := by decide) : Glb K w mg x (.tup ds) := by
  have e := He.glo_ok X G c
  exact ⟨_, .ref (He.ga K (Str.ofString x)), e, rfl, fun c => by
    unfold Rep
    exact ⟨_, _, rfl, He.tupB_ok t c.H, r.rep c, Nat.le_trans z (by decide)⟩⟩
/-! ### tables -/
def kvOf (kvs : List (String × He.Dv)) : List (Str × He.Dv) := kvs.map fun q => (Str.ofString q.1, q.2)
theorem vget_mem {α : Type} {k : Ky} : ∀ {ks : List Ky} {vs : List α} {v : α}, vget k ks vs = some v → ∃ i : Nat, ks[i]? = some k ∧ vs[i]? = some v
  | [], _, _, e => by simp [vget] at e
  | _ :: _, [], _, e => by simp [vget] at e
  | q :: ks, u :: vs, v, e => by
    unfold vget at e
    by_cases z : q = k
    · rw [if_pos z] at e
      cases e
      exact ⟨0, by rw [z]; rfl, rfl⟩
    · rw [if_neg z] at e
      obtain ⟨i, h1, h2⟩ := vget_mem e
      exact ⟨i + 1, h1, h2⟩
theorem vget_none {α : Type} {k : Ky} : ∀ {ks : List Ky} {vs : List α}, ks.length = vs.length → vget k ks vs = none → k ∉ ks
  | [], _, _, _ => by simp
  | _ :: _, [], h, _ => by simp at h
  | q :: ks, u :: vs, h, e => by
    unfold vget at e
    by_cases z : q = k
    · rw [if_pos z] at e
      cases e
    · rw [if_neg z] at e
      have := vget_none (by simpa using h) e
      intro hm
      rcases List.mem_cons.mp hm with hm | hm
      · exact z hm.symm
      · exact this hm
theorem keys_absent {a : Addr} {ks : List Str} (h : He.dicW K a = some (He.keysIn w.params ks)) {z : Str} (hz : z ∉ ks) : PySem.W.nsIn K a z = some none := by
  obtain ⟨es, n, hd⟩ := He.dicW_ok h
  have e1 : es.toList.map He.keyOf = He.keysIn w.params ks := by
    unfold He.dicW at h
    rw [hd.at_] at h
    simp only at h
    split at h
    · exact Option.some.inj h
    · cases h
  have all : ∀ e ∈ es.toList, ∃ y t, e.key = .str y t ∧ y ∈ ks := fun e he => by
    have m : He.keyOf e ∈ He.keysIn w.params ks := by
      rw [← e1]
      exact List.mem_map.mpr ⟨e, he, rfl⟩
    obtain ⟨y, hy, e2⟩ := List.mem_map.mp m
    unfold He.keyOf at e2
    split at e2
    · rename_i y2 t q
      have e3 := (Prod.mk.inj (Option.some.inj e2)).1
      exact ⟨y2, t, q, e3 ▸ hy⟩
    · cases e2
  unfold PySem.W.nsIn
  rw [hd.at_]
  simp only
  have f1 : es.toList.find? (·.key.isStr z) = none := by
    refine List.find?_eq_none.mpr fun e he => ?_
    obtain ⟨y, t, q, hy⟩ := all e he
    rw [q]
    intro c
    have : y = z := by simpa [Value.isStr] using c
    exact hz (this ▸ hy)
  have f2 : es.toList.any (·.refKey) = false := by
    refine List.any_eq_false.mpr fun e he => ?_
    obtain ⟨y, t, q, hy⟩ := all e he
    unfold DictEntry.refKey
    rw [q]
    exact Bool.false_ne_true
  rw [f1, f2]
  rfl
theorem saysT_keys {fa : List He.Fa} {fn : List He.DefD} {ts : List He.Tab} (c : He.SaysT fa fn ts w K) (i : Nat) {t : He.Tab} (h : ts[i]? = some t := by rfl) : He.dicW K (t.1 K) = some (He.keysIn w.params t.2) := by
  have e : ts.map (fun t => He.dicW K (t.1 K)) = ts.map fun t => some (He.keysIn w.params t.2) := congrArg (fun z : He.AlT => z.2) c
  have e2 := congrArg (fun l => l[i]?) e
  simp only [List.getElem?_map, h, Option.map_some] at e2
  exact Option.some.inj e2
theorem kTab_of {a : Addr} {kvs : List (String × He.Dv)} (hk : He.dicW K a = some (He.keysIn w.params (kvs.map fun q => Str.ofString q.1))) (hv : He.valsB K a (kvOf kvs) = true) :
    KTab K w a (kvs.map fun q => Ky.s (S q.1)) ((kvs.map (·.2)).map (He.Dv.v K)) := by
  refine ⟨He.dicW_ok hk, fun z => ⟨fun e => ?_, fun v e => ?_⟩⟩
  · have hn := vget_none (by simp) e
    refine keys_absent hk fun m => hn ?_
    obtain ⟨q, hq, e2⟩ := List.mem_map.mp m
    refine List.mem_map.mpr ⟨q, hq, ?_⟩
    rw [← toS_S] at e2
    rw [toS_inj.mp e2]
  · obtain ⟨i, h1, h2⟩ := vget_mem e
    rw [List.getElem?_map] at h1
    obtain ⟨q, h3, h4⟩ := Option.map_eq_some_iff.mp h1
    rw [List.getElem?_map, List.getElem?_map, h3] at h2
    cases h2
    have hz : toS z = Str.ofString q.1 := by
      cases h4
      exact toS_S q.1
    obtain ⟨u, h5, h6⟩ := He.valsB_ok hv (q := (Str.ofString q.1, q.2)) (List.mem_map.mpr ⟨q, List.mem_of_getElem? h3, rfl⟩)
    exact ⟨u, by rw [hz]; exact h5, h6⟩
theorem glb_tab (X : K.In h) (G : h.Ns mainGlobals mg) {x : String} {kvs : List (String × He.Dv)} {ds : List D} (c : (He.Fa.glo (Str.ofString x)).ok K = true) (hk : He.dicW K (He.ga K (Str.ofString x)) = some (He.keysIn w.params (kvs.map fun q => Str.ofString q.1)))
    (hv : He.valsB K (He.ga K (Str.ofString x)) (kvOf kvs) = true) (r : DvsOf K w mg (kvs.map (·.2)) ds) : Glb K w mg x (.tab (kvs.map fun q => Ky.s (S q.1)) ds) := by
  have e := He.glo_ok X G c
  exact ⟨_, .ref (He.ga K (Str.ofString x)), e, rfl, fun c => by
    unfold Rep
    exact ⟨_, _, rfl, by simp, r.rep c, kTab_of hk hv⟩⟩
/-! ### classes, callables -/
theorem clsF_of (X : K.In h) (G : h.Ns mainGlobals mg) {C f : String} (c : (He.Fa.glo (Str.ofString C)).ok K = true) (c2 : (He.Fa.cls (Str.ofString C)).ok K = true) (c3 : (He.Fa.noat (Str.ofString C) (Str.ofString f)).ok K = true) : ClsF K mg C f := fun a ha => by
  rw [He.glo_ok X G c] at ha
  cases ha
  exact ⟨He.cls_ok c2, He.noat_ok c3⟩
end
/-- what a call of a name of the module needs, by parts -/
def CallG (P : Program) (w : World) (K : PySem.W.Frag) (mg : Str → Option Value) (base : Heap) (x : Str) (k n : Nat) (F : Fn) (dd : List D) : Prop :=
  ∃ (f : Addr) (fd : FuncData) (ps : List Str) (dsv : List Value) (dvs : List V), FnDen P w K mg base k f fd ps F ∧ mg x = some (.ref f) ∧ PySem.W.keepIn K (.ref f) = true ∧ Binds K fd ps dsv ∧ Vals dvs dsv ∧ (∀ c, RepL K w mg c dd dvs) ∧ ps.length = n
def CallGM (P : Program) (w : World) (K : PySem.W.Frag) (mg : Str → Option Value) (base : Heap) (C m : String) (k n : Nat) (F : Fn) (dd : List D) : Prop :=
  ∃ (Ca f : Addr) (fd : FuncData) (ps : List Str) (dsv : List Value) (dvs : List V), FnDen P w K mg base k f fd ps F ∧ mg (Str.ofString C) = some (.ref Ca) ∧ Cls K Ca ∧ Meth K Ca (Str.ofString m) f ∧ Binds K fd ps dsv ∧ Vals dvs dsv ∧ (∀ c, RepL K w mg c dd dvs) ∧ ps.length = n
def CallGN (P : Program) (w : World) (K : PySem.W.Frag) (mg : Str → Option Value) (base : Heap) (C : String) (k n : Nat) (F : Fn) (dd : List D) : Prop :=
  ∃ (Ca f : Addr) (fd : FuncData) (ps : List Str) (dsv : List Value) (dvs : List V), FnDen P w K mg base k f fd ps F ∧ mg (Str.ofString C) = some (.ref Ca) ∧ Mk K Ca f ∧ Binds K fd ps dsv ∧ Vals dvs dsv ∧ (∀ c, RepL K w mg c dd dvs) ∧ ps.length = n
section
variable {P : Program} {w : World} {K : PySem.W.Frag} {mg : Str → Option Value} {base : Heap} {x : Str} {C m : String} {j k n : Nat} {F F' : Fn} {dd : List D}
theorem CallG.mono (c : CallG P w K mg base x j n F dd) (h : j ≤ k) : CallG P w K mg base x k n F dd := by
  obtain ⟨f, fd, ps, dsv, dvs, d, r⟩ := c
  exact ⟨f, fd, ps, dsv, dvs, d.mono h, r⟩
theorem CallGM.mono (c : CallGM P w K mg base C m j n F dd) (h : j ≤ k) : CallGM P w K mg base C m k n F dd := by
  obtain ⟨Ca, f, fd, ps, dsv, dvs, d, r⟩ := c
  exact ⟨Ca, f, fd, ps, dsv, dvs, d.mono h, r⟩
theorem CallGN.mono (c : CallGN P w K mg base C j n F dd) (h : j ≤ k) : CallGN P w K mg base C k n F dd := by
  obtain ⟨Ca, f, fd, ps, dsv, dvs, d, r⟩ := c
  exact ⟨Ca, f, fd, ps, dsv, dvs, d.mono h, r⟩
/-- less is said -/
abbrev Less (F' F : Fn) : Prop := ∀ ds h, F' ds h = .no ∨ F' ds h = F ds h
theorem CallG.imp (c : CallG P w K mg base x k n F dd) (h : Less F' F) : CallG P w K mg base x k n F' dd := by
  obtain ⟨f, fd, ps, dsv, dvs, d, r⟩ := c
  exact ⟨f, fd, ps, dsv, dvs, d.imp h, r⟩
theorem CallGM.imp (c : CallGM P w K mg base C m k n F dd) (h : Less F' F) : CallGM P w K mg base C m k n F' dd := by
  obtain ⟨Ca, f, fd, ps, dsv, dvs, d, r⟩ := c
  exact ⟨Ca, f, fd, ps, dsv, dvs, d.imp h, r⟩
theorem CallGN.imp (c : CallGN P w K mg base C k n F dd) (h : Less F' F) : CallGN P w K mg base C k n F' dd := by
  obtain ⟨Ca, f, fd, ps, dsv, dvs, d, r⟩ := c
  exact ⟨Ca, f, fd, ps, dsv, dvs, d.imp h, r⟩
theorem FnDen.never {f : Addr} {fd : FuncData} {ps : List Str} : FnDen P w K mg base k f fd ps (fun _ _ => .no) := ⟨fun A outer s H args us vs ds ms h Q E hr hg e0 hb r hl S rl p => False.elim p⟩
/-- a def by its body, by its row -/
theorem FunD.den {name qual : Str} {params : Arguments} {body : List Stmt} {scope : Scope} {dvs : List V} {kws : List (Str × V)} {f : Addr} {fd : FuncData} {N ps : List Str} {g : DS} (F : FunD K name qual params body scope dvs kws f fd) (sc : FnScope N ps scope)
    (does : ∀ (cdv : Value) (A : Around) (outer : List PySem.Env) (s : Shared) (H : Hp) (E : XK), CtxOk (cxOf (L2.CX P w) P w K mg base N qual scope f cdv A outer s H E) (WE E) k →
      DenSs (cxOf (L2.CX P w) P w K mg base N qual scope f cdv A outer s H E) (WE E) body g) : FnDen P w K mg base (k + 1) f fd ps (fun ds h => Dn.trim h (run N.length g ds h)) := by
  obtain ⟨oc, od, dV, kV, doc, pm, an, cdv, ct, osl, rfl, lk, hcd, hD, hK⟩ := F.ex
  exact FnDen.trim (fnDen_of lk hcd sc (does cdv))
end
end Dn

/-! text DnV -/
set_option maxHeartbeats 1000000
set_option Elab.async false
set_option linter.all false
set_option maxRecDepth 100000
set_option autoImplicit false
/-! Dn, part V: a def's call from the head's facts. -/
namespace Dn
open PySem PySem.Spec PyProof.Rows L2
section
variable {P : Program} {w : World} {K : PySem.W.Frag} {mg : Str → Option Value} {base h : Heap} {k n : Nat} {name qual : Str} {params : Arguments} {body : List Stmt} {scope : Scope} {dvs : List V} {fd : FuncData} {ps : List Str} {F : Fn}
theorem callG_of {x : String} (X : K.In h) (G : h.Ns mainGlobals mg) (c : (He.Fa.glo (Str.ofString x)).ok K = true) (FD : FunD K name qual params body scope [] [] (He.fAd K (Str.ofString x, none)) fd)
    (hb : ∀ (kV doc pm : Value) (an : Option Addr) (cdv ct : Value) (us : List Value), us.length = ps.length → bindArgs (PySem.W.fnOf name qual params body scope .none kV doc pm an cdv ct) ⟨us, []⟩ = pure (ps.zip us))
    (den : FnDen P w K mg base k (He.fAd K (Str.ofString x, none)) fd ps F) (hn : ps.length = n := by rfl) : CallG P w K mg base (Str.ofString x) k n F [] :=
  ⟨_, fd, ps, [], [], den, He.glo_ok X G c, FD.kp, FD.bindsN hb, .nil, fun _ => RepL.nil, hn⟩
theorem callM_of {C m : String} (X : K.In h) (G : h.Ns mainGlobals mg) (c : (He.Fa.glo (Str.ofString C)).ok K = true) (c2 : (He.Fa.cls (Str.ofString C)).ok K = true) (c3 : (He.Fa.meth (Str.ofString C) (Str.ofString m)).ok K = true)
    (FD : FunD K name qual params body scope [] [] (He.fAd K (Str.ofString C, some (Str.ofString m))) fd)
    (hb : ∀ (kV doc pm : Value) (an : Option Addr) (cdv ct : Value) (us : List Value), us.length = ps.length → bindArgs (PySem.W.fnOf name qual params body scope .none kV doc pm an cdv ct) ⟨us, []⟩ = pure (ps.zip us))
    (den : FnDen P w K mg base k (He.fAd K (Str.ofString C, some (Str.ofString m))) fd ps F) (hn : ps.length = n := by rfl) : CallGM P w K mg base C m k n F [] :=
  ⟨_, _, fd, ps, [], [], den, He.glo_ok X G c, He.cls_ok c2, He.meth_ok c3, FD.bindsN hb, .nil, fun _ => RepL.nil, hn⟩
theorem callN_of {C : String} (X : K.In h) (G : h.Ns mainGlobals mg) (c : (He.Fa.glo (Str.ofString C)).ok K = true) (c3 : (He.Fa.mkr (Str.ofString C)).ok K = true)
    (FD : FunD K name qual params body scope [] [] (He.fAd K (Str.ofString C, some "__init__")) fd)
    (hb : ∀ (kV doc pm : Value) (an : Option Addr) (cdv ct : Value) (us : List Value), us.length = ps.length → bindArgs (PySem.W.fnOf name qual params body scope .none kV doc pm an cdv ct) ⟨us, []⟩ = pure (ps.zip us))
    (den : FnDen P w K mg base k (He.fAd K (Str.ofString C, some "__init__")) fd ps F) (hn : ps.length = n := by rfl) : CallGN P w K mg base C k n F [] :=
  ⟨_, _, fd, ps, [], [], den, He.glo_ok X G c, He.mkr_ok c3, FD.bindsN hb, .nil, fun _ => RepL.nil, hn⟩
/-- with defaults: i values are written, the defaults behind the first j fill up -/
theorem callMd_of {C m : String} (X : K.In h) (G : h.Ns mainGlobals mg) (c : (He.Fa.glo (Str.ofString C)).ok K = true) (c2 : (He.Fa.cls (Str.ofString C)).ok K = true) (c3 : (He.Fa.meth (Str.ofString C) (Str.ofString m)).ok K = true)
    (FD : FunD K name qual params body scope dvs [] (He.fAd K (Str.ofString C, some (Str.ofString m))) fd) (i j : Nat) {dd : List D} (hd : dvs ≠ []) (hi : i + (dvs.length - j) = ps.length)
    (hb : ∀ (T : Addr) (kV doc pm : Value) (an : Option Addr) (cdv ct : Value) (us its : List Value), us.length = i → its.length = dvs.length →
      ∃ k, bindArgs (PySem.W.fnOf name qual params body scope (.ref T) kV doc pm an cdv ct) ⟨us, []⟩ = seqItems? (.ref T) >>= k ∧ k (some its.toArray) = pure (ps.zip (us ++ its.drop j)))
    (hr : ∀ c, RepL K w mg c dd (dvs.drop j))
    (den : FnDen P w K mg base k (He.fAd K (Str.ofString C, some (Str.ofString m))) fd ps F) (hn : ps.length = n := by rfl) : CallGM P w K mg base C m k n F dd := by
  obtain ⟨ds, hv, hB⟩ := FD.binds1 i j hd hi hb
  exact ⟨_, _, fd, ps, ds, dvs.drop j, den, He.glo_ok X G c, He.cls_ok c2, He.meth_ok c3, hB, hv, hr, hn⟩
theorem callGd_of {x : String} (X : K.In h) (G : h.Ns mainGlobals mg) (c : (He.Fa.glo (Str.ofString x)).ok K = true)
    (FD : FunD K name qual params body scope dvs [] (He.fAd K (Str.ofString x, none)) fd) (i j : Nat) {dd : List D} (hd : dvs ≠ []) (hi : i + (dvs.length - j) = ps.length)
    (hb : ∀ (T : Addr) (kV doc pm : Value) (an : Option Addr) (cdv ct : Value) (us its : List Value), us.length = i → its.length = dvs.length →
      ∃ k, bindArgs (PySem.W.fnOf name qual params body scope (.ref T) kV doc pm an cdv ct) ⟨us, []⟩ = seqItems? (.ref T) >>= k ∧ k (some its.toArray) = pure (ps.zip (us ++ its.drop j)))
    (hr : ∀ c, RepL K w mg c dd (dvs.drop j))
    (den : FnDen P w K mg base k (He.fAd K (Str.ofString x, none)) fd ps F) (hn : ps.length = n := by rfl) : CallG P w K mg base (Str.ofString x) k n F dd := by
  obtain ⟨ds, hv, hB⟩ := FD.binds1 i j hd hi hb
  exact ⟨_, fd, ps, ds, dvs.drop j, den, He.glo_ok X G c, FD.kp, hB, hv, hr, hn⟩
end
/-! ### bits that the printed texts use -/
def lots : Nat := 2 ^ 24 + 100
def opAddI : D → D → Hh → R D
  | .int i, .int j, h => .ok (.int (i + j)) h
  | _, _, _ => .no
theorem opD_addI {X : Cx} {W : WX} : OpD (X := X) (W := W) (ipI fun i j => i + j) opAddI := by
  intro c d e x y σ Q S rd re p
  cases d <;> cases e <;> first | exact False.elim p | skip
  case int.int i j => exact ⟨i, j, rep_int.mp rd, rep_int.mp re, Post.at S p (rep_int.mpr rfl)⟩
theorem ptsYes {X : Cx} : PTs X [] (tG X WF eq_ Dn.tYes) := ⟨fun pins s σ H Q I t => pts_nil.run pins s σ H Q I (by
  obtain ⟨ms, env, h, S, SE, p⟩ := t
  exact Post.at (c := ⟨ms, h, H⟩) S p rfl)⟩
end Dn

/-! text D75P -/
set_option maxHeartbeats 1000000
set_option Elab.async false
set_option linter.all false
set_option maxRecDepth 100000
set_option autoImplicit false
set_option maxHeartbeats 4000000
/-! k75: the defs' pieces (printed by gendn.py). -/
namespace Dk75
open Dn
def k_LETTERS : D := .str (S "abcdefghijklmnopqrstuvwxyz")
def k_BARRED : D := .tup [.str (S "and"), .str (S "or"), .str (S "not"), .str (S "rest"), .str (S "size"), .str (S "part"), .str (S "why"), .str (S "where"), .str (S "to"), .str (S "by"), .str (S "go"), .str (S "call")]
def k_LONGEST_NAME : D := .int 8
def k_GREATEST : D := .int 1000000000000
def k_LONGEST_TEXT : D := .int 100
def k_LAST_NUMBER : D := .int 9999
def k_DEEPEST : D := .int 8
def k_MOST_EXPRESSIONS : D := .int 40
def k_SIGNS_words : D := .tup [.str (S "+"), .str (S "-"), .str (S "*"), .str (S "/"), .str (S "rest"), .str (S "<"), .str (S "="), .str (S ">"), .str (S "and"), .str (S "or")]
def k_WITHIN : D := .tab [.s (S "cell"), .s (S "fit"), .s (S "not"), .s (S "size"), .s (S "part"), .s (S "why"), .s (S "where")] [.int 1, .int 1, .int 1, .int 1, .int 3, .int 0, .int 0]
def k_FIGURES : D := .str (S "0123456789")
def k_SIGNS_tokens : D := .str (S "()[],;=+-*/<>")
def k_MOST_FIGURES : D := .int 13
def k_CALLED : D := .tab [.s (S "not"), .s (S "size"), .s (S "part")] [.int 1, .int 1, .int 3]
def k_ALONE : D := .tup [.str (S "why"), .str (S "where")]
def k_DATA_LESS : D := .int (-1)
noncomputable def g_is_name : DS :=
  (sSeq (sIf (Dn.tOr (Dn.tNot (tE (eB bIsi (aCons (eVar 0) (aCons (eC (.ty "str")) aNil))))) (Dn.tOr (Dn.tNot (tBl (eChain cLe cLe (eC (.int 1)) (eB bLen (aCons (eVar 0) aNil)) (eC k_LONGEST_NAME)))) (tBl (e2 cIn (eVar 0) (eC k_BARRED)))))
  (sRet (eC (.bl false)))
  sNil)
  (sRet (eB bAll (aCons (eComp (iE itS (eVar 0)) (Dn.gName 1) Dn.tYes (e2 cIn (eVar 1) (eC k_LETTERS)) [1]) aNil))))
noncomputable def g_is_whole : DS :=
  (sRet (eAnd (eB bIsi (aCons (eVar 0) (aCons (eC (.ty "int")) aNil))) (eAnd (eNot (eB bIsi (aCons (eVar 0) (aCons (eC (.ty "bool")) aNil)))) (eChain cLe cLe (eVar 1) (eVar 0) (eVar 2)))))
noncomputable def g_is_text : DS :=
  (sSeq (sIf (Dn.tOr (Dn.tNot (tE (eB bIsi (aCons (eVar 0) (aCons (eC (.ty "str")) aNil))))) (tBl (e2 cGt (eB bLen (aCons (eVar 0) aNil)) (eC k_LONGEST_TEXT))))
  (sRet (eC (.bl false)))
  sNil)
  (sRet (eB bAll (aCons (eComp (iE itS (eVar 0)) (Dn.gName 1) Dn.tYes (eAnd (eChain cLe cLe (eC (.str (S " "))) (eVar 1) (eC (.str (S "~")))) (e2 cNe (eVar 1) (eC (.str (S "\""))))) [1]) aNil))))
noncomputable def g_is_tuple : DS :=
  (sRet (eAnd (eB bIsi (aCons (eVar 0) (aCons (eC (.ty "tuple")) aNil))) (eChain cLe cLe (eVar 1) (eB bLen (aCons (eVar 0) aNil)) (eVar 2))))
noncomputable def g_is_worded (F_is_tuple : Fn) : DS :=
  (sRet (eAnd (eCall 3 F_is_tuple [] (aCons (eVar 0) (aCons (eC (.int 1)) (aCons (eC k_LAST_NUMBER) aNil)))) (eB bIsi (aCons (e2 opItem (eVar 0) (eC (.int 0))) (aCons (eC (.ty "str")) aNil)))))
noncomputable def g_parts_of : DS :=
  (sSeq (sSet (eVar 0) (Dn.gStar 1 (Dn.gCons (Dn.gName 1) (Dn.gCons (Dn.gName 2) Dn.gNil))))
  (sSeq (sIf (tBl (e2 cIn (eVar 1) (eTup (aCons (eC (.str (S "number"))) (aCons (eC (.str (S "text"))) (aCons (eC (.str (S "box"))) aNil))))))
  (sRet (eLst aNil))
  sNil)
  (sRet (eIf (tBl (e2 cIn (eVar 1) (eTup (aCons (eC (.str (S "cell"))) (aCons (eC (.str (S "fit"))) aNil))))) (eSlice (eVar 2) (oSome (eC (.int 1))) oNone) (eVar 2)))))
noncomputable def g_has_form (F_is_worded : Fn) (F_is_whole : Fn) (F_is_text : Fn) (F_is_name : Fn) (F_parts_of : Fn) : DS :=
  (sSeq (sIf (Dn.tNot (tE (eCall 1 F_is_worded [] (aCons (eVar 0) aNil))))
  (sRet (eC (.bl false)))
  sNil)
  (sSeq (sSet (eVar 0) (Dn.gStar 1 (Dn.gCons (Dn.gName 1) (Dn.gCons (Dn.gName 2) Dn.gNil))))
  (sSeq (sIf (tBl (e2 cIn (eVar 1) (eTup (aCons (eC (.str (S "number"))) (aCons (eC (.str (S "text"))) aNil)))))
  (sRet (eAnd (e2 cEq (eB bLen (aCons (eVar 2) aNil)) (eC (.int 1))) (eIf (tBl (e2 cEq (eVar 1) (eC (.str (S "number"))))) (eCall 3 F_is_whole [] (aCons (e2 opItem (eVar 2) (eC (.int 0))) (aCons (eC (.int 0)) (aCons (eC k_GREATEST) aNil)))) (eCall 1 F_is_text [] (aCons (e2 opItem (eVar 2) (eC (.int 0))) aNil)))))
  sNil)
  (sSeq (sIf (tBl (e2 cEq (eVar 1) (eC (.str (S "box")))))
  (sRet (eAnd (e2 cEq (eB bLen (aCons (eVar 2) aNil)) (eC (.int 1))) (eCall 1 F_is_name [] (aCons (e2 opItem (eVar 2) (eC (.int 0))) aNil))))
  sNil)
  (sSeq (sIf (Dn.tAnd (tBl (e2 cIn (eVar 1) (eTup (aCons (eC (.str (S "cell"))) (aCons (eC (.str (S "fit"))) aNil))))) (Dn.tOr (tBl (e2 cEq (eVar 2) (eLst aNil))) (Dn.tNot (tE (eCall 1 F_is_name [] (aCons (e2 opItem (eVar 2) (eC (.int 0))) aNil))))))
  (sRet (eC (.bl false)))
  sNil)
  (sSeq (sIf (tBl (e2 cIn (eVar 1) (eC k_SIGNS_words)))
  (sRet (e2 cEq (eB bLen (aCons (eVar 2) aNil)) (eC (.int 2))))
  sNil)
  (sRet (eAnd (e2 cIn (eVar 1) (eC k_WITHIN)) (e2 cEq (eB bLen (aCons (eCall 1 F_parts_of [] (aCons (eVar 0) aNil)) aNil)) (e2 opItem (eC k_WITHIN) (eVar 1)))))))))))
noncomputable def g_is_expression (F_has_form : Fn) (F_parts_of : Fn) : DS :=
  (sSeq (sSet (eBox (eLst (aCons (eTup (aCons (eVar 0) (aCons (eC (.int 1)) aNil))) aNil))) (Dn.gName 1))
  (sSeq (sSet (eC (.int 0)) (Dn.gName 2))
  (sSeq (sWhile lots (tBl (e2 cNe (eVar 1) (eLst aNil)))
  (sSeq (sSet (eBM0 "list" mPop (eVar 1)) (Dn.gTup 2 (Dn.gCons (Dn.gName 3) (Dn.gCons (Dn.gName 4) Dn.gNil))))
  (sSeq (sAug 2 opAddI (eC (.int 1)))
  (sSeq (sIf (Dn.tOr (tBl (e2 cGt (eVar 4) (eC k_DEEPEST))) (Dn.tOr (tBl (e2 cGt (eVar 2) (eC k_MOST_EXPRESSIONS))) (Dn.tNot (tE (eCall 1 F_has_form [] (aCons (eVar 3) aNil))))))
  (sRet (eC (.bl false)))
  sNil)
  (sExpr (eBM "list" mExtend (eVar 1) (aCons (eComp (iE itL (eCall 1 F_parts_of [] (aCons (eVar 3) aNil))) (Dn.gName 5) Dn.tYes (eTup (aCons (eVar 5) (aCons (e2 opAdd (eVar 4) (eC (.int 1))) aNil))) [5]) aNil)))))))
  (sRet (eC (.bl true))))))
noncomputable def g_show_worth : DS :=
  (sRet (eIf (tE (eB bIsi (aCons (eVar 0) (aCons (eC (.ty "str")) aNil)))) (e2 opAdd (e2 opAdd (eC (.str (S "\""))) (eVar 0)) (eC (.str (S "\"")))) (eB bStr (aCons (eVar 0) aNil))))
noncomputable def g_show_expression (F_show_worth : Fn) (F_parts_of : Fn) (F_show_expression : Fn) : DS :=
  (sSeq (sSet (eVar 0) (Dn.gStar 1 (Dn.gCons (Dn.gName 2) (Dn.gCons (Dn.gName 3) Dn.gNil))))
  (sSeq (sIf (tBl (e2 cIn (eVar 2) (eTup (aCons (eC (.str (S "number"))) (aCons (eC (.str (S "text"))) aNil)))))
  (sRet (eCall 1 F_show_worth [] (aCons (e2 opItem (eVar 3) (eC (.int 0))) aNil)))
  sNil)
  (sSeq (sIf (tBl (e2 cEq (eVar 2) (eC (.str (S "box")))))
  (sRet (eB bStr (aCons (e2 opItem (eVar 3) (eC (.int 0))) aNil)))
  sNil)
  (sSeq (sSet (eComp (iE itL (eCall 1 F_parts_of [] (aCons (eVar 0) aNil))) (Dn.gName 4) Dn.tYes (eCall 1 F_show_expression [] (aCons (eVar 4) aNil)) [4]) (Dn.gName 1))
  (sSeq (sIf (tBl (e2 cIn (eVar 2) (eC k_SIGNS_words)))
  (sRet (e2 opAdd (e2 opAdd (e2 opAdd (e2 opAdd (e2 opAdd (e2 opAdd (eC (.str (S "("))) (e2 opItem (eVar 1) (eC (.int 0)))) (eC (.str (S " ")))) (eVar 2)) (eC (.str (S " ")))) (e2 opItem (eVar 1) (eC (.int 1)))) (eC (.str (S ")")))))
  sNil)
  (sSeq (sIf (tBl (e2 cEq (eVar 2) (eC (.str (S "cell")))))
  (sRet (e2 opAdd (e2 opAdd (e2 opAdd (eB bStr (aCons (e2 opItem (eVar 3) (eC (.int 0))) aNil)) (eC (.str (S "[")))) (e2 opItem (eVar 1) (eC (.int 0)))) (eC (.str (S "]")))))
  sNil)
  (sSeq (sIf (tBl (e2 cEq (eVar 2) (eC (.str (S "fit")))))
  (sRet (e2 opAdd (e2 opAdd (e2 opAdd (eB bStr (aCons (e2 opItem (eVar 3) (eC (.int 0))) aNil)) (eC (.str (S "(")))) (e2 opItem (eVar 1) (eC (.int 0)))) (eC (.str (S ")")))))
  sNil)
  (sRet (eIf (tBl (e2 cNe (eVar 1) (eLst aNil))) (e2 opAdd (e2 opAdd (e2 opAdd (eVar 2) (eC (.str (S "(")))) (eBM "str" mJoin (eC (.str (S ", "))) (aCons (eVar 1) aNil))) (eC (.str (S ")")))) (eVar 2))))))))))
noncomputable def g_refuse_unless : DS :=
  (sIf (Dn.tNot (tE (eVar 0)))
  sNo
  sNil)
noncomputable def g_run_end : DS :=
  (sSeq (sWhile lots (Dn.tAnd (tBl (e2 cLt (eVar 1) (eB bLen (aCons (eVar 0) aNil)))) (tBl (e2 cIn (e2 opItem (eVar 0) (eVar 1)) (eVar 2))))
  (sAug 1 opAddI (eC (.int 1))))
  (sRet (eVar 1)))
noncomputable def g_is_plain : DS :=
  (sRet (eB bAll (aCons (eComp (iE itS (eVar 0)) (Dn.gName 1) Dn.tYes (eAnd (eChain cLe cLe (eC (.str (S " "))) (eVar 1) (eC (.str (S "~")))) (e2 cNe (eVar 1) (eC (.str (S "\""))))) [1]) aNil)))
noncomputable def g_kind_at (F_run_end : Fn) (F_refuse_unless : Fn) (F_is_plain : Fn) : DS :=
  (sSeq (sSet (e2 opItem (eVar 0) (eVar 1)) (Dn.gName 2))
  (sSeq (sIf (tBl (e2 cIn (eVar 2) (eC k_LETTERS)))
  (sRet (eTup (aCons (eC (.str (S "word"))) (aCons (eCall 3 F_run_end [] (aCons (eVar 0) (aCons (eVar 1) (aCons (eC k_LETTERS) aNil)))) aNil))))
  sNil)
  (sSeq (sIf (tBl (e2 cIn (eVar 2) (eC k_FIGURES)))
  (sRet (eTup (aCons (eC (.str (S "figures"))) (aCons (eCall 3 F_run_end [] (aCons (eVar 0) (aCons (eVar 1) (aCons (eC k_FIGURES) aNil)))) aNil))))
  sNil)
  (sSeq (sIf (tBl (e2 cEq (eVar 2) (eC (.str (S " ")))))
  (sRet (eTup (aCons (eC (.str (S "blank"))) (aCons (eCall 3 F_run_end [] (aCons (eVar 0) (aCons (eVar 1) (aCons (eC (.str (S " "))) aNil)))) aNil))))
  sNil)
  (sSeq (sIf (tBl (e2 cIn (eVar 2) (eC k_SIGNS_tokens)))
  (sRet (eTup (aCons (eC (.str (S "sign"))) (aCons (e2 opAdd (eVar 1) (eC (.int 1))) aNil))))
  sNil)
  (sSeq (sSet (eBM "str" mFind (eVar 0) (aCons (eC (.str (S "\""))) (aCons (e2 opAdd (eVar 1) (eC (.int 1))) aNil))) (Dn.gName 3))
  (sSeq (sExpr (eCall 1 F_refuse_unless [] (aCons (eAnd (e2 cEq (eVar 2) (eC (.str (S "\"")))) (eAnd (e2 cGt (eVar 3) (eC (.int 0))) (eCall 1 F_is_plain [] (aCons (eSlice (eVar 0) (oSome (e2 opAdd (eVar 1) (eC (.int 1)))) (oSome (eVar 3))) aNil)))) aNil)))
  (sRet (eTup (aCons (eC (.str (S "text"))) (aCons (e2 opAdd (eVar 3) (eC (.int 1))) aNil)))))))))))
noncomputable def g_is_noted : DS :=
  (sRet (eAnd (e2 cEq (eB bLen (aCons (eVar 0) aNil)) (eC (.int 2))) (eAnd (e2 cEq (e2 opItem (e2 opItem (eVar 0) (eC (.int 0))) (eC (.int 0))) (eC (.str (S "figures")))) (e2 cEq (e2 opItem (eVar 0) (eC (.int 1))) (eTup (aCons (eC (.str (S "word"))) (aCons (eC (.str (S "note"))) aNil)))))))
noncomputable def g_tokens (F_kind_at : Fn) (F_is_noted : Fn) (F_refuse_unless : Fn) (F_is_plain : Fn) : DS :=
  (sSeq (sIf (Dn.tNot (tE (eB bIsi (aCons (eVar 0) (aCons (eC (.ty "str")) aNil)))))
  sNo
  sNil)
  (sSeq (sSet (eBox (eLst aNil)) (Dn.gName 1))
  (sSeq (sSet (eC (.int 0)) (Dn.gName 2))
  (sSeq (sWhile lots (tBl (e2 cLt (eVar 2) (eB bLen (aCons (eVar 0) aNil))))
  (sSeq (sSet (eCall 2 F_kind_at [] (aCons (eVar 0) (aCons (eVar 2) aNil))) (Dn.gTup 2 (Dn.gCons (Dn.gName 3) (Dn.gCons (Dn.gName 4) Dn.gNil))))
  (sSeq (sIf (Dn.tAnd (tBl (e2 cEq (eVar 3) (eC (.str (S "blank"))))) (tE (eCall 1 F_is_noted [] (aCons (eVar 1) aNil))))
  (sSeq (sExpr (eCall 1 F_refuse_unless [] (aCons (eCall 1 F_is_plain [] (aCons (eSlice (eVar 0) (oSome (e2 opAdd (eVar 2) (eC (.int 1)))) oNone) aNil)) aNil)))
  (sRet (e2 opAdd (eFrz (eVar 1)) (eLst (aCons (eTup (aCons (eC (.str (S "note"))) (aCons (eSlice (eVar 0) (oSome (e2 opAdd (eVar 2) (eC (.int 1)))) oNone) aNil))) aNil)))))
  sNil)
  (sSeq (sIf (tBl (e2 cNe (eVar 3) (eC (.str (S "blank")))))
  (sExpr (eBM "list" mAppend (eVar 1) (aCons (eTup (aCons (eVar 3) (aCons (eSlice (eVar 0) (oSome (eVar 2)) (oSome (eVar 4))) aNil))) aNil)))
  sNil)
  (sSet (eVar 4) (Dn.gName 2))))))
  (sRet (eFrz (eVar 1)))))))
noncomputable def g_Reading_init__ : DS :=
  (sSeq (Dn.sFld "Reading" "rest" (eVar 0) (eVar 1))
  (Dn.sFld "Reading" "spot" (eVar 0) (eC (.int 0))))
noncomputable def g_Reading_look : DS :=
  (sRet (eIf (tBl (e2 cLt (eFld "Reading" "spot" (eVar 0)) (eB bLen (aCons (eFld "Reading" "rest" (eVar 0)) aNil)))) (e2 opItem (eFld "Reading" "rest" (eVar 0)) (eFld "Reading" "spot" (eVar 0))) (eTup (aCons (eC (.str (S "end"))) (aCons (eC (.str (S ""))) aNil)))))
noncomputable def g_Reading_is_next (F_Reading_look : Fn) : DS :=
  (sRet (e2 cEq (eMeth "Reading" "look" 1 F_Reading_look [] (eVar 0) aNil) (eTup (aCons (eVar 1) (aCons (eVar 2) aNil)))))
noncomputable def g_Reading_take (F_Reading_look : Fn) (F_refuse_unless : Fn) : DS :=
  (sSeq (sSet (eMeth "Reading" "look" 1 F_Reading_look [] (eVar 0) aNil) (Dn.gTup 2 (Dn.gCons (Dn.gName 2) (Dn.gCons (Dn.gName 3) Dn.gNil))))
  (sSeq (sExpr (eCall 1 F_refuse_unless [] (aCons (e2 cEq (eVar 2) (eVar 1)) aNil)))
  (sSeq (Dn.sFldAdd "Reading" "spot" (eVar 0) (eC (.int 1)))
  (sRet (eVar 3)))))
noncomputable def g_Reading_must (F_refuse_unless : Fn) (F_Reading_take : Fn) : DS :=
  (sExpr (eCall 1 F_refuse_unless [] (aCons (e2 cEq (eMeth "Reading" "take" 2 F_Reading_take [] (eVar 0) (aCons (eVar 1) aNil)) (eVar 2)) aNil)))
noncomputable def g_Reading_counted (F_Reading_take : Fn) (F_refuse_unless : Fn) : DS :=
  (sSeq (sSet (eMeth "Reading" "take" 2 F_Reading_take [] (eVar 0) (aCons (eC (.str (S "figures"))) aNil)) (Dn.gName 1))
  (sSeq (sExpr (eCall 1 F_refuse_unless [] (aCons (e2 cLe (eB bLen (aCons (eVar 1) aNil)) (eC k_MOST_FIGURES)) aNil)))
  (sRet (eB bInt (aCons (eVar 1) aNil)))))
noncomputable def g_Reading_worth (F_Reading_look : Fn) (F_Reading_take : Fn) (F_Reading_is_next : Fn) (F_Reading_counted : Fn) (F_Reading_must : Fn) : DS :=
  (sSeq (sIf (tBl (e2 cEq (e2 opItem (eMeth "Reading" "look" 1 F_Reading_look [] (eVar 0) aNil) (eC (.int 0))) (eC (.str (S "text")))))
  (sRet (eSlice (eMeth "Reading" "take" 2 F_Reading_take [] (eVar 0) (aCons (eC (.str (S "text"))) aNil)) (oSome (eC (.int 1))) (oSome (e1 opNeg (eC (.int 1))))))
  sNil)
  (sSeq (sIf (Dn.tNot (tE (eMeth "Reading" "is_next" 3 F_Reading_is_next [] (eVar 0) (aCons (eC (.str (S "sign"))) (aCons (eC (.str (S "-"))) aNil)))))
  (sRet (eMeth "Reading" "counted" 1 F_Reading_counted [] (eVar 0) aNil))
  sNil)
  (sSeq (sExpr (eMeth "Reading" "must" 3 F_Reading_must [] (eVar 0) (aCons (eC (.str (S "sign"))) (aCons (eC (.str (S "-"))) aNil))))
  (sRet (e2 opMul (eC k_DATA_LESS) (eMeth "Reading" "counted" 1 F_Reading_counted [] (eVar 0) aNil))))))
noncomputable def g_Reading_within (F_Reading_must : Fn) (F_Reading_expression : Fn) : DS :=
  (sSeq (sExpr (eMeth "Reading" "must" 3 F_Reading_must [] (eVar 0) (aCons (eC (.str (S "sign"))) (aCons (eC (.str (S "("))) aNil))))
  (sSeq (sSet (eBox (eLst aNil)) (Dn.gName 3))
  (sSeq (sFor (iRange (eVar 1)) (Dn.gName 4)
  (sSeq (sIf (tBl (e2 cGt (eVar 4) (eC (.int 0))))
  (sExpr (eMeth "Reading" "must" 3 F_Reading_must [] (eVar 0) (aCons (eC (.str (S "sign"))) (aCons (eC (.str (S ","))) aNil))))
  sNil)
  (sExpr (eBM "list" mAppend (eVar 3) (aCons (eMeth "Reading" "expression" 2 F_Reading_expression [] (eVar 0) (aCons (eVar 2) aNil)) aNil)))))
  (sSeq (sExpr (eMeth "Reading" "must" 3 F_Reading_must [] (eVar 0) (aCons (eC (.str (S "sign"))) (aCons (eC (.str (S ")"))) aNil))))
  (sRet (eFrz (eVar 3)))))))
noncomputable def g_Reading_called (F_Reading_take : Fn) (F_Reading_within : Fn) (F_Reading_is_next : Fn) (F_Reading_placed : Fn) : DS :=
  (sSeq (sSet (eMeth "Reading" "take" 2 F_Reading_take [] (eVar 0) (aCons (eC (.str (S "word"))) aNil)) (Dn.gName 2))
  (sSeq (sIf (tBl (e2 cIn (eVar 2) (eC k_ALONE)))
  (sRet (eTup (aCons (eVar 2) aNil)))
  sNil)
  (sSeq (sIf (tBl (e2 cIn (eVar 2) (eC k_CALLED)))
  (sRet (eB bTuple (aCons (e2 opAdd (eLst (aCons (eVar 2) aNil)) (eMeth "Reading" "within" 3 F_Reading_within [] (eVar 0) (aCons (e2 opItem (eC k_CALLED) (eVar 2)) (aCons (e2 opAdd (eVar 1) (eC (.int 1))) aNil)))) aNil)))
  sNil)
  (sSeq (sIf (tE (eMeth "Reading" "is_next" 3 F_Reading_is_next [] (eVar 0) (aCons (eC (.str (S "sign"))) (aCons (eC (.str (S "("))) aNil))))
  (sRet (eTup (aCons (eC (.str (S "fit"))) (aCons (eVar 2) (aCons (e2 opItem (eMeth "Reading" "within" 3 F_Reading_within [] (eVar 0) (aCons (eC (.int 1)) (aCons (e2 opAdd (eVar 1) (eC (.int 1))) aNil))) (eC (.int 0))) aNil)))))
  sNil)
  (sSeq (sIf (Dn.tNot (tE (eMeth "Reading" "is_next" 3 F_Reading_is_next [] (eVar 0) (aCons (eC (.str (S "sign"))) (aCons (eC (.str (S "["))) aNil)))))
  (sRet (eTup (aCons (eC (.str (S "box"))) (aCons (eVar 2) aNil))))
  sNil)
  (sRet (eTup (aCons (eC (.str (S "cell"))) (aCons (eVar 2) (aCons (eMeth "Reading" "placed" 2 F_Reading_placed [] (eVar 0) (aCons (e2 opAdd (eVar 1) (eC (.int 1))) aNil)) aNil))))))))))
noncomputable def g_Reading_placed (F_Reading_must : Fn) (F_Reading_expression : Fn) : DS :=
  (sSeq (sExpr (eMeth "Reading" "must" 3 F_Reading_must [] (eVar 0) (aCons (eC (.str (S "sign"))) (aCons (eC (.str (S "["))) aNil))))
  (sSeq (sSet (eMeth "Reading" "expression" 2 F_Reading_expression [] (eVar 0) (aCons (eVar 1) aNil)) (Dn.gName 2))
  (sSeq (sExpr (eMeth "Reading" "must" 3 F_Reading_must [] (eVar 0) (aCons (eC (.str (S "sign"))) (aCons (eC (.str (S "]"))) aNil))))
  (sRet (eVar 2)))))
noncomputable def g_Reading_of_two (F_Reading_must : Fn) (F_Reading_expression : Fn) (F_Reading_look : Fn) (F_refuse_unless : Fn) : DS :=
  (sSeq (sExpr (eMeth "Reading" "must" 3 F_Reading_must [] (eVar 0) (aCons (eC (.str (S "sign"))) (aCons (eC (.str (S "("))) aNil))))
  (sSeq (sSet (eMeth "Reading" "expression" 2 F_Reading_expression [] (eVar 0) (aCons (eVar 1) aNil)) (Dn.gName 2))
  (sSeq (sSet (eMeth "Reading" "look" 1 F_Reading_look [] (eVar 0) aNil) (Dn.gTup 2 (Dn.gCons (Dn.gName 4) (Dn.gCons (Dn.gName 5) Dn.gNil))))
  (sSeq (sExpr (eCall 1 F_refuse_unless [] (aCons (eAnd (e2 cIn (eVar 4) (eTup (aCons (eC (.str (S "sign"))) (aCons (eC (.str (S "word"))) aNil)))) (e2 cIn (eVar 5) (eC k_SIGNS_words))) aNil)))
  (sSeq (Dn.sFldAdd "Reading" "spot" (eVar 0) (eC (.int 1)))
  (sSeq (sSet (eMeth "Reading" "expression" 2 F_Reading_expression [] (eVar 0) (aCons (eVar 1) aNil)) (Dn.gName 3))
  (sSeq (sExpr (eMeth "Reading" "must" 3 F_Reading_must [] (eVar 0) (aCons (eC (.str (S "sign"))) (aCons (eC (.str (S ")"))) aNil))))
  (sRet (eTup (aCons (eVar 5) (aCons (eVar 2) (aCons (eVar 3) aNil))))))))))))
noncomputable def g_Reading_expression (F_refuse_unless : Fn) (F_Reading_look : Fn) (F_Reading_counted : Fn) (F_Reading_take : Fn) (F_Reading_of_two : Fn) (F_Reading_called : Fn) : DS :=
  (sSeq (sExpr (eCall 1 F_refuse_unless [] (aCons (e2 cLe (eVar 1) (eC k_DEEPEST)) aNil)))
  (sSeq (sSet (eMeth "Reading" "look" 1 F_Reading_look [] (eVar 0) aNil) (Dn.gTup 2 (Dn.gCons (Dn.gName 2) (Dn.gCons (Dn.gName 3) Dn.gNil))))
  (sSeq (sIf (tBl (e2 cEq (eVar 2) (eC (.str (S "figures")))))
  (sRet (eTup (aCons (eC (.str (S "number"))) (aCons (eMeth "Reading" "counted" 1 F_Reading_counted [] (eVar 0) aNil) aNil))))
  sNil)
  (sSeq (sIf (tBl (e2 cEq (eVar 2) (eC (.str (S "text")))))
  (sRet (eTup (aCons (eC (.str (S "text"))) (aCons (eSlice (eMeth "Reading" "take" 2 F_Reading_take [] (eVar 0) (aCons (eC (.str (S "text"))) aNil)) (oSome (eC (.int 1))) (oSome (e1 opNeg (eC (.int 1))))) aNil))))
  sNil)
  (sSeq (sIf (tBl (e2 cEq (eVar 2) (eC (.str (S "sign")))))
  (sRet (eMeth "Reading" "of_two" 2 F_Reading_of_two [] (eVar 0) (aCons (e2 opAdd (eVar 1) (eC (.int 1))) aNil)))
  sNil)
  (sRet (eMeth "Reading" "called" 2 F_Reading_called [] (eVar 0) (aCons (eVar 1) aNil))))))))
noncomputable def g_read_expression (F_Reading___init__ : Fn) (F_tokens : Fn) (F_Reading_expression : Fn) (F_refuse_unless : Fn) (F_is_expression : Fn) (F_show_expression : Fn) : DS :=
  (sSeq (sSet (eMeth "Reading" "expression" 2 F_Reading_expression [.int 1] (eMake "Reading" 2 F_Reading___init__ [] (aCons (eCall 1 F_tokens [] (aCons (eVar 0) aNil)) aNil)) aNil) (Dn.gName 1))
  (sSeq (sExpr (eCall 1 F_refuse_unless [] (aCons (eAnd (eCall 1 F_is_expression [] (aCons (eVar 1) aNil)) (e2 cEq (eCall 1 F_show_expression [] (aCons (eVar 1) aNil)) (eVar 0))) aNil)))
  (sRet (eVar 1))))
noncomputable def g_l_pen : DS :=
  (sRet (eDic [.s (S "cells"), .s (S "at"), .s (S "left")] (aCons (eB bList (aCons (eSlice (eVar 0) oNone (oSome (eC (.int 63)))) aNil)) (aCons (eC (.int 0)) (aCons (eC (.int 0)) aNil)))))
noncomputable def g_l_draw : DS :=
  (sSeq (sIf (tBl (e2 cGt (e2 opItem (eVar 0) (eC (.str (S "left")))) (eC (.int 0))))
  (sSeq (sSet (e2 opMod (e2 opItem (eVar 0) (eC (.str (S "left")))) (eVar 1)) (Dn.gName 6))
  (sSeq (sPut (eVar 0) (eC (.str (S "left"))) (e2 opDiv (e2 opItem (eVar 0) (eC (.str (S "left")))) (eVar 1)))
  (sRet (eVar 6))))
  sNil)
  (sSeq (sSet (e2 opItem (eVar 0) (eC (.str (S "at")))) (Dn.gName 2))
  (sSeq (sPut (eVar 0) (eC (.str (S "at"))) (e2 opAdd (eVar 2) (eC (.int 1))))
  (sSeq (sSet (e2 opAdd (e2 opMul (eC (.int 1861)) (eVar 2)) (eC (.int 809))) (Dn.gName 3))
  (sSeq (sIf (tBl (e2 cNe (e2 opItem (eVar 0) (eC (.str (S "cells")))) (eLst aNil)))
  (sSet (e2 opItem (e2 opItem (eVar 0) (eC (.str (S "cells")))) (e2 opMod (eVar 2) (eB bLen (aCons (e2 opItem (eVar 0) (eC (.str (S "cells")))) aNil)))) (Dn.gName 3))
  sNil)
  (sSeq (sIf (Dn.tAnd (tBl (e2 cLt (eVar 2) (eB bLen (aCons (e2 opItem (eVar 0) (eC (.str (S "cells")))) aNil)))) (tBl (e2 cGe (eB bAbs (aCons (eVar 3) aNil)) (e2 opPow (eC (.int 10)) (eC (.int 18))))))
  (sSeq (sSet (e2 opAdd (e2 opMul (eC (.int 2)) (eB bAbs (aCons (eVar 3) aNil))) (eB bInt (aCons (e2 cLt (eVar 3) (eC (.int 0))) aNil))) (Dn.gName 7))
  (sSeq (sPut (eVar 0) (eC (.str (S "left"))) (e2 opDiv (eVar 7) (eVar 1)))
  (sRet (e2 opMod (eVar 7) (eVar 1)))))
  sNil)
  (sSeq (sSet (e2 opMod (e2 opPow (e2 opAdd (e2 opAdd (e2 opMod (eVar 3) (eC (.int 2147483543))) (e2 opMul (eC (.int 69001)) (eVar 2))) (eC (.int 83))) (eC (.int 5))) (eC (.int 2147483647))) (Dn.gName 4))
  (sSeq (sSet (e2 opMod (e2 opPow (e2 opAdd (e2 opMul (eVar 4) (e2 opAdd (eVar 2) (eC (.int 65551)))) (e2 opMul (e2 opMul (eC (.int 86011)) (eVar 2)) (eVar 2))) (eC (.int 3))) (eC (.int 2147483353))) (Dn.gName 5))
  (sRet (e2 opMod (e2 opDiv (eVar 5) (eC (.int 32))) (eVar 1)))))))))))
noncomputable def g_l_text (F_l_draw : Fn) : DS :=
  (sSeq (sSet (eLst (aCons (eC (.str (S ""))) (aCons (eC (.str (S "a"))) (aCons (eC (.str (S "ab"))) (aCons (eC (.str (S "b"))) (aCons (eC (.str (S " "))) (aCons (eC (.str (S "no, yes; (x)"))) (aCons (eC (.str (S "10 end"))) (aCons (eC (.str (S "~"))) (aCons (e2 opMul (eC (.str (S "x"))) (eC (.int 100))) (aCons (e2 opMul (eC (.str (S "y"))) (eC (.int 60))) aNil))))))))))) (Dn.gName 1))
  (sRet (e2 opItem (eVar 1) (eCall 2 F_l_draw [] (aCons (eVar 0) (aCons (e2 opItem (eLst (aCons (eC (.int 10)) (aCons (eC (.int 5)) aNil))) (eCall 2 F_l_draw [] (aCons (eVar 0) (aCons (eC (.int 2)) aNil)))) aNil))))))
noncomputable def g_l_number (F_l_draw : Fn) : DS :=
  (sSeq (sSet (eLst (aCons (eC (.int 0)) (aCons (eC (.int 1)) (aCons (eC (.int 2)) (aCons (eC (.int 3)) (aCons (eC (.int 5)) (aCons (eC (.int 7)) (aCons (eC (.int 10)) (aCons (e2 opPow (eC (.int 10)) (eC (.int 12))) (aCons (e2 opPow (eC (.int 10)) (eC (.int 6))) (aCons (eCall 2 F_l_draw [] (aCons (eVar 0) (aCons (eC (.int 100)) aNil))) aNil))))))))))) (Dn.gName 1))
  (sRet (e2 opItem (eVar 1) (eCall 2 F_l_draw [] (aCons (eVar 0) (aCons (e2 opItem (eLst (aCons (eC (.int 10)) (aCons (eC (.int 6)) aNil))) (eCall 2 F_l_draw [] (aCons (eVar 0) (aCons (eC (.int 2)) aNil)))) aNil))))))
noncomputable def g_l_expression (F_l_draw : Fn) (F_l_expression : Fn) (F_l_number : Fn) (F_l_text : Fn) : DS :=
  (sSeq (sSet (eIf (tBl (e2 cGt (eVar 1) (eC (.int 1)))) (eCall 2 F_l_draw [] (aCons (eVar 0) (aCons (eC (.int 16)) aNil))) (e2 opAdd (eC (.int 9)) (eCall 2 F_l_draw [] (aCons (eVar 0) (aCons (eC (.int 7)) aNil))))) (Dn.gName 2))
  (sSeq (sSet (eLst (aCons (eC (.str (S "a"))) (aCons (eC (.str (S "b"))) (aCons (eC (.str (S "c"))) (aCons (eC (.str (S "i"))) aNil))))) (Dn.gName 3))
  (sSeq (sIf (tBl (e2 cLt (eVar 2) (eC (.int 5))))
  (sSeq (sSet (eLst (aCons (eC (.str (S "+"))) (aCons (eC (.str (S "-"))) (aCons (eC (.str (S "*"))) (aCons (eC (.str (S "/"))) (aCons (eC (.str (S "rest"))) (aCons (eC (.str (S "<"))) (aCons (eC (.str (S "="))) (aCons (eC (.str (S ">"))) (aCons (eC (.str (S "and"))) (aCons (eC (.str (S "or"))) (aCons (eC (.str (S "+"))) (aCons (eC (.str (S "-"))) (aCons (eC (.str (S "<"))) aNil)))))))))))))) (Dn.gName 4))
  (sRet (eTup (aCons (e2 opItem (eVar 4) (eCall 2 F_l_draw [] (aCons (eVar 0) (aCons (eC (.int 13)) aNil)))) (aCons (eCall 2 F_l_expression [] (aCons (eVar 0) (aCons (e2 opSub (eVar 1) (eC (.int 1))) aNil))) (aCons (eCall 2 F_l_expression [] (aCons (eVar 0) (aCons (e2 opSub (eVar 1) (eC (.int 1))) aNil))) aNil))))))
  sNil)
  (sSeq (sIf (tBl (e2 cEq (eVar 2) (eC (.int 5))))
  (sRet (eTup (aCons (e2 opItem (eLst (aCons (eC (.str (S "not"))) (aCons (eC (.str (S "size"))) aNil))) (eCall 2 F_l_draw [] (aCons (eVar 0) (aCons (eC (.int 2)) aNil)))) (aCons (eCall 2 F_l_expression [] (aCons (eVar 0) (aCons (e2 opSub (eVar 1) (eC (.int 1))) aNil))) aNil))))
  sNil)
  (sSeq (sIf (tBl (e2 cEq (eVar 2) (eC (.int 6))))
  (sRet (eTup (aCons (eC (.str (S "cell"))) (aCons (e2 opItem (eLst (aCons (eC (.str (S "r"))) (aCons (eC (.str (S "a"))) aNil))) (e2 opDiv (eCall 2 F_l_draw [] (aCons (eVar 0) (aCons (eC (.int 9)) aNil))) (eC (.int 8)))) (aCons (eCall 2 F_l_expression [] (aCons (eVar 0) (aCons (e2 opSub (eVar 1) (eC (.int 1))) aNil))) aNil)))))
  sNil)
  (sSeq (sIf (tBl (e2 cEq (eVar 2) (eC (.int 7))))
  (sRet (eTup (aCons (eC (.str (S "fit"))) (aCons (e2 opItem (eLst (aCons (eC (.str (S "f"))) (aCons (eC (.str (S "g"))) aNil))) (e2 opDiv (eCall 2 F_l_draw [] (aCons (eVar 0) (aCons (eC (.int 4)) aNil))) (eC (.int 3)))) (aCons (eCall 2 F_l_expression [] (aCons (eVar 0) (aCons (e2 opSub (eVar 1) (eC (.int 1))) aNil))) aNil)))))
  sNil)
  (sSeq (sIf (tBl (e2 cEq (eVar 2) (eC (.int 8))))
  (sRet (e2 opAdd (eTup (aCons (eC (.str (S "part"))) aNil)) (eB bTuple (aCons (eComp (iRange (eC (.int 3))) (Dn.gName 5) Dn.tYes (eCall 2 F_l_expression [] (aCons (eVar 0) (aCons (e2 opSub (eVar 1) (eC (.int 1))) aNil))) [5]) aNil))))
  sNil)
  (sSeq (sIf (tBl (e2 cLt (eVar 2) (eC (.int 12))))
  (sRet (eTup (aCons (eC (.str (S "number"))) (aCons (eCall 1 F_l_number [] (aCons (eVar 0) aNil)) aNil))))
  sNil)
  (sSeq (sIf (tBl (e2 cLt (eVar 2) (eC (.int 15))))
  (sRet (eTup (aCons (eC (.str (S "box"))) (aCons (e2 opItem (eVar 3) (eCall 2 F_l_draw [] (aCons (eVar 0) (aCons (eC (.int 4)) aNil)))) aNil))))
  sNil)
  (sRet (e2 opItem (eLst (aCons (eTup (aCons (eC (.str (S "text"))) (aCons (eCall 1 F_l_text [] (aCons (eVar 0) aNil)) aNil))) (aCons (eTup (aCons (eC (.str (S "why"))) aNil)) (aCons (eTup (aCons (eC (.str (S "where"))) aNil)) aNil)))) (eB bMin (aCons (eC (.int 2)) (aCons (e2 opDiv (eCall 2 F_l_draw [] (aCons (eVar 0) (aCons (eC (.int 6)) aNil))) (eC (.int 2))) aNil))))))))))))))
noncomputable def g_l_great (F_l_expression : Fn) (F_l_draw : Fn) : DS :=
  (sSeq (sSet (eCall 2 F_l_expression [] (aCons (eVar 0) (aCons (eC (.int 1)) aNil))) (Dn.gName 1))
  (sSeq (sIf (tBl (e2 cEq (eCall 2 F_l_draw [] (aCons (eVar 0) (aCons (eC (.int 2)) aNil))) (eC (.int 0))))
  (sSeq (sFor (iRange (eC (.int 7))) (Dn.gName 3)
  (sSet (e2 opItem (eLst (aCons (eTup (aCons (eC (.str (S "not"))) (aCons (eVar 1) aNil))) (aCons (eTup (aCons (eC (.str (S "cell"))) (aCons (eC (.str (S "r"))) (aCons (eVar 1) aNil)))) (aCons (eTup (aCons (eC (.str (S "-"))) (aCons (eVar 1) (aCons (eTup (aCons (eC (.str (S "why"))) aNil)) aNil)))) aNil)))) (eCall 2 F_l_draw [] (aCons (eVar 0) (aCons (eC (.int 3)) aNil)))) (Dn.gName 1)))
  (sRet (eVar 1)))
  sNil)
  (sSeq (sSet (eTup (aCons (eC (.str (S "number"))) (aCons (eC (.int 1)) aNil))) (Dn.gName 2))
  (sSeq (sFor (iRange (eC (.int 4))) (Dn.gName 3)
  (sSet (eTup (aCons (eC (.str (S "+"))) (aCons (eVar 2) (aCons (eVar 2) aNil)))) (Dn.gName 2)))
  (sSeq (sSet (eTup (aCons (eC (.str (S "part"))) (aCons (eVar 2) (aCons (eTup (aCons (eC (.str (S "box"))) (aCons (eC (.str (S "set"))) aNil))) (aCons (eTup (aCons (eC (.str (S "*"))) (aCons (eTup (aCons (eC (.str (S "fit"))) (aCons (eC (.str (S "say"))) (aCons (eVar 1) aNil)))) (aCons (eTup (aCons (eC (.str (S "box"))) (aCons (eC (.str (S "note"))) aNil))) aNil)))) aNil))))) (Dn.gName 4))
  (sRet (eTup (aCons (eC (.str (S "not"))) (aCons (eTup (aCons (eC (.str (S "+"))) (aCons (eTup (aCons (eC (.str (S "box"))) (aCons (eC (.str (S "a"))) aNil))) (aCons (eVar 4) aNil)))) aNil)))))))))
noncomputable def g_l_shown (F_l_shown : Fn) : DS :=
  (sSeq (sSet (e2 opItem (eVar 0) (eC (.int 0))) (Dn.gName 1))
  (sSeq (sIf (tBl (e2 cEq (eVar 1) (eC (.str (S "number")))))
  (sRet (eB bStr (aCons (e2 opItem (eVar 0) (eC (.int 1))) aNil)))
  sNil)
  (sSeq (sIf (tBl (e2 cEq (eVar 1) (eC (.str (S "text")))))
  (sRet (e2 opAdd (e2 opAdd (eC (.str (S "\""))) (e2 opItem (eVar 0) (eC (.int 1)))) (eC (.str (S "\"")))))
  sNil)
  (sSeq (sIf (tBl (e2 cEq (eVar 1) (eC (.str (S "box")))))
  (sRet (e2 opItem (eVar 0) (eC (.int 1))))
  sNil)
  (sSeq (sIf (tBl (e2 cIn (eVar 1) (eTup (aCons (eC (.str (S "cell"))) (aCons (eC (.str (S "fit"))) aNil)))))
  (sSeq (sSet (eCall 1 F_l_shown [] (aCons (e2 opItem (eVar 0) (eC (.int 2))) aNil)) (Dn.gName 2))
  (sRet (e2 opAdd (e2 opItem (eVar 0) (eC (.int 1))) (e2 opItem (eLst (aCons (e2 opAdd (e2 opAdd (eC (.str (S "["))) (eVar 2)) (eC (.str (S "]")))) (aCons (e2 opAdd (e2 opAdd (eC (.str (S "("))) (eVar 2)) (eC (.str (S ")")))) aNil))) (eB bInt (aCons (e2 cEq (eVar 1) (eC (.str (S "fit")))) aNil))))))
  sNil)
  (sSeq (sSet (eComp (iE itT (eSlice (eVar 0) (oSome (eC (.int 1))) oNone)) (Dn.gName 3) Dn.tYes (eCall 1 F_l_shown [] (aCons (eVar 3) aNil)) [3]) (Dn.gName 2))
  (sSeq (sIf (tBl (e2 cIn (eVar 1) (eTup (aCons (eC (.str (S "not"))) (aCons (eC (.str (S "size"))) (aCons (eC (.str (S "part"))) aNil))))))
  (sRet (e2 opAdd (e2 opAdd (e2 opAdd (eVar 1) (eC (.str (S "(")))) (eBM "str" mJoin (eC (.str (S ", "))) (aCons (eVar 2) aNil))) (eC (.str (S ")")))))
  sNil)
  (sSeq (sIf (tBl (e2 cEq (eVar 2) (eLst aNil)))
  (sRet (eVar 1))
  sNil)
  (sRet (e2 opAdd (e2 opAdd (e2 opAdd (e2 opAdd (e2 opAdd (e2 opAdd (eC (.str (S "("))) (e2 opItem (eVar 2) (eC (.int 0)))) (eC (.str (S " ")))) (eVar 1)) (eC (.str (S " ")))) (e2 opItem (eVar 2) (eC (.int 1)))) (eC (.str (S ")")))))))))))))
noncomputable def g_law (F_l_pen : Fn) (F_l_expression : Fn) (F_l_draw : Fn) (F_l_great : Fn) (F_is_expression : Fn) (F_l_shown : Fn) (F_show_expression : Fn) (F_read_expression : Fn) : DS :=
  (sSeq (sSet (eCall 1 F_l_pen [] (aCons (eVar 0) aNil)) (Dn.gName 1))
  (sSeq (sSet (eLst (aCons (eTup (aCons (eC (.str (S "fit"))) (aCons (eC (.str (S "set"))) (aCons (eTup (aCons (eC (.str (S "cell"))) (aCons (eC (.str (S "say"))) (aCons (eTup (aCons (eC (.str (S "box"))) (aCons (eC (.str (S "note"))) aNil))) aNil)))) aNil)))) (aCons (eTup (aCons (eC (.str (S "text"))) (aCons (eC (.str (S ""))) aNil))) (aCons (eTup (aCons (eC (.str (S "rest"))) (aCons (eTup (aCons (eC (.str (S "why"))) aNil)) (aCons (eTup (aCons (eC (.str (S "where"))) aNil)) aNil)))) aNil)))) (Dn.gName 2))
  (sSeq (sSet (eBox (e2 opAdd (eVar 2) (eLst (aCons (eTup (aCons (eC (.str (S "number"))) (aCons (e2 opPow (eC (.int 10)) (eC (.int 12))) aNil))) (aCons (eTup (aCons (eC (.str (S "text"))) (aCons (eC (.str (S " (a) "))) aNil))) (aCons (eTup (aCons (eC (.str (S "size"))) (aCons (eTup (aCons (eC (.str (S "text"))) (aCons (eC (.str (S "why"))) aNil))) aNil))) aNil)))))) (Dn.gName 2))
  (sSeq (sFor (iRange (eC (.int 30))) (Dn.gName 3)
  (sExpr (eBM "list" mAppend (eVar 2) (aCons (eCall 2 F_l_expression [] (aCons (eVar 1) (aCons (e2 opAdd (eC (.int 1)) (eCall 2 F_l_draw [] (aCons (eVar 1) (aCons (eC (.int 4)) aNil)))) aNil))) aNil))))
  (sSeq (sSet (e2 opAdd (eFrz (eVar 2)) (eComp (iRange (eC (.int 4))) (Dn.gName 3) Dn.tYes (eCall 1 F_l_great [] (aCons (eVar 1) aNil)) [3])) (Dn.gName 2))
  (sSeq (sSet (eComp (iE itL (eVar 2)) (Dn.gName 4) (tE (eCall 1 F_is_expression [] (aCons (eVar 4) aNil))) (eVar 4) [4]) (Dn.gName 2))
  (sSeq (sIf (tBl (e2 cLt (eB bLen (aCons (eVar 2) aNil)) (eC (.int 6))))
  (sRet (eC (.bl false)))
  sNil)
  (sSeq (sFor (iE itL (e2 opAdd (eVar 2) (eSlice (eVar 2) oNone (oSome (eC (.int 2)))))) (Dn.gName 4)
  (sSeq (sSet (eB bRepr (aCons (eVar 4) aNil)) (Dn.gName 6))
  (sSeq (sSet (eCall 1 F_l_shown [] (aCons (eVar 4) aNil)) (Dn.gName 7))
  (sFor (iRange (eC (.int 2))) (Dn.gName 8)
  (sIf (Dn.tOr (tBl (e2 cNe (eCall 1 F_show_expression [] (aCons (eVar 4) aNil)) (eVar 7))) (Dn.tOr (tBl (e2 cNe (eB bRepr (aCons (eCall 1 F_read_expression [] (aCons (eVar 7) aNil)) aNil)) (eVar 6))) (tBl (e2 cNe (eB bRepr (aCons (eVar 4) aNil)) (eVar 6)))))
  (sRet (eC (.bl false)))
  sNil)))))
  (sSeq (sSet (eTup (aCons (eC (.str (S "rest"))) (aCons (eTup (aCons (eC (.str (S "+"))) (aCons (eTup (aCons (eC (.str (S "box"))) (aCons (eC (.str (S "a"))) aNil))) (aCons (eTup (aCons (eC (.str (S "number"))) (aCons (eC (.int 1)) aNil))) aNil)))) (aCons (eTup (aCons (eC (.str (S "size"))) (aCons (eTup (aCons (eC (.str (S "text"))) (aCons (eC (.str (S "x"))) aNil))) aNil))) aNil)))) (Dn.gName 5))
  (sRet (e2 cEq (eCall 1 F_read_expression [] (aCons (eC (.str (S "((a + 1) rest size(\"x\"))"))) aNil)) (eVar 5))))))))))))
end Dk75

/-! text DnT -/
set_option maxHeartbeats 1000000
set_option Elab.async false
set_option linter.all false
set_option maxRecDepth 100000
set_option autoImplicit false
/-! Dn, part T: plain laws of the pieces: data, garbage, comprehensions, loops. -/
namespace Dn
mutual
theorem isData_below {n : Nat} (m : Nat) : ∀ d : D, isData n d = true → below m d = true
  | .non, _ => rfl
  | .bl _, _ => rfl
  | .int _, _ => rfl
  | .str _, _ => rfl
  | .ty _, h => by cases n <;> cases h
  | .glb _, h => by cases n <;> cases h
  | .scr _, h => by cases n <;> cases h
  | .loc _, h => by cases n <;> cases h
  | .dic _ _, h => by cases n <;> cases h
  | .tab _ _, h => by cases n <;> cases h
  | .tup ds, h => by
    cases n with
    | zero => cases h
    | succ n => exact areData_below m ds h
  | .lst ds, h => by
    cases n with
    | zero => cases h
    | succ n => exact areData_below m ds h
theorem areData_below {n : Nat} (m : Nat) : ∀ ds : List D, areData n ds = true → belows m ds = true
  | [], _ => rfl
  | d :: ds, h => by
    have h2 : isData n d = true ∧ areData n ds = true := by simpa [areData] using h
    show (below m d && belows m ds) = true
    rw [isData_below m d h2.1, areData_below m ds h2.2]
    rfl
end
mutual
theorem isData_mono {n m : Nat} (hm : n ≤ m) : ∀ d : D, isData n d = true → isData m d = true
  | .non, _ => by cases m <;> rfl
  | .bl _, _ => by cases m <;> rfl
  | .int _, _ => by cases m <;> rfl
  | .str _, _ => by cases m <;> rfl
  | .ty _, h => by cases n <;> cases h
  | .glb _, h => by cases n <;> cases h
  | .scr _, h => by cases n <;> cases h
  | .loc _, h => by cases n <;> cases h
  | .dic _ _, h => by cases n <;> cases h
  | .tab _ _, h => by cases n <;> cases h
  | .tup ds, h => by
    cases n with
    | zero => cases h
    | succ n =>
      cases m with
      | zero => omega
      | succ m => exact areData_mono (n := n) (m := m) (by omega) ds h
  | .lst ds, h => by
    cases n with
    | zero => cases h
    | succ n =>
      cases m with
      | zero => omega
      | succ m => exact areData_mono (n := n) (m := m) (by omega) ds h
theorem areData_mono {n m : Nat} (hm : n ≤ m) : ∀ ds : List D, areData n ds = true → areData m ds = true
  | [], _ => by cases m <;> rfl
  | d :: ds, h => by
    have h2 : isData n d = true ∧ areData n ds = true := by simpa [areData] using h
    have h3 : isData m d = true ∧ areData m ds = true := ⟨isData_mono hm d h2.1, areData_mono hm ds h2.2⟩
    simpa [areData] using h3
end
theorem eqv_ss (s t : Tx) : eqv (.str s) (.str t) = (s == t) := rfl
theorem eqv_ii (s t : Int) : eqv (.int s) (.int t) = (s == t) := rfl
theorem eqv_bb (s t : Bool) : eqv (.bl s) (.bl t) = (s == t) := rfl
theorem eqv_tt (s t : List D) : eqv (.tup s) (.tup t) = eqvL s t := rfl
theorem eqv_ll (s t : List D) : eqv (.lst s) (.lst t) = eqvL s t := rfl
theorem eqv_ts (s : List D) (t : Tx) : eqv (.tup s) (.str t) = false := rfl
theorem eqv_st (s : Tx) (t : List D) : eqv (.str s) (.tup t) = false := rfl
theorem eqvL_nn : eqvL [] [] = true := rfl
theorem eqvL_nc (y : D) (ys : List D) : eqvL [] (y :: ys) = false := rfl
theorem eqvL_cn (x : D) (xs : List D) : eqvL (x :: xs) [] = false := rfl
theorem eqvL_cc (x y : D) (xs ys : List D) : eqvL (x :: xs) (y :: ys) = (eqv x y && eqvL xs ys) := rfl
theorem areData_all {n : Nat} {ds : List D} : areData n ds = true ↔ ∀ d ∈ ds, isData n d = true := by
  induction ds with
  | nil => simp [areData]
  | cons d ds ih => simp [areData, ih]
open Classical in
theorem trim_ok (h0 : Hh) (d : D) (h : Hh) : trim h0 (.ok d h) = if Trims h0 d h then .ok d (h.take h0.length) else .ok d h := rfl
theorem trim_len {h h' : Hh} {d : D} (e : h'.length = h.length) : trim h (.ok d h') = .ok d h' := by
  rw [trim_ok]
  split
  · rw [← e, List.take_length]
  · rfl
theorem trim_same {h : Hh} {d : D} : trim h (.ok d h) = .ok d h := trim_len rfl
theorem trim_no {h : Hh} : trim h .no = .no := rfl
theorem trim_app {h g : Hh} {d : D} (b : below h.length d = true) : trim h (.ok d (h ++ g)) = .ok d h := by
  rw [trim_ok, if_pos ⟨by simp, b, fun i hi => .inl (by rw [List.getElem?_append_left hi])⟩, List.take_left]
/-- what stays below, an object or two changed, garbage behind -/
theorem trim_to {h0 h1 g : Hh} {d : D} (e : h1.length = h0.length) (b : below h0.length d = true) (k : ∀ i : Nat, i < h0.length → h1[i]? = h0[i]? ∨ ∀ o, h1[i]? = some (some o) → belowO h0.length o = true) : trim h0 (.ok d (h1 ++ g)) = .ok d h1 := by
  rw [trim_ok, if_pos ⟨by rw [List.length_append, e]; omega, b, fun i hi => by rw [List.getElem?_append_left (by omega)]; exact k i hi⟩, ← e, List.take_left]
theorem compL_map {α : Type} {gi : α → D} {fo : α → Option D} {n : Nat} {turn : D → Hh → R (Option D)} {h : Hh} (hn : n = h.length) : ∀ (l : List α) (acc : List D), (∀ a ∈ l, ∀ acc, turn (gi a) (h ++ [some (.lst acc)]) = .ok (fo a) (h ++ [some (.lst acc)])) → acc.length + l.length ≤ big →
    compL n turn (l.map gi) (h ++ [some (.lst acc)]) = .ok () (h ++ [some (.lst (acc ++ l.filterMap fo))])
  | [], acc, _, _ => by simp [compL]
  | a :: l, acc, ht, hz => by
    have e := ht a (List.mem_cons_self) acc
    have at_ : (h ++ [some (O.lst acc)])[n]? = some (some (.lst acc)) := by
      rw [hn, List.getElem?_append_right (Nat.le_refl _)]
      simp
    have z : acc.length + l.length + 1 ≤ big := by simpa [Nat.add_assoc] using hz
    rw [List.map_cons]
    unfold compL
    rw [e]
    cases ef : fo a with
    | none =>
      simp only
      rw [compL_map hn l acc (fun b hb => ht b (List.mem_cons_of_mem _ hb)) (by omega)]
      simp [ef]
    | some y =>
      simp only [at_]
      rw [if_pos (by omega)]
      have es : (h ++ [some (O.lst acc)]).set n (some (.lst (acc ++ [y]))) = h ++ [some (.lst (acc ++ [y]))] := by
        rw [hn, List.set_append_right _ _ (Nat.le_refl _)]
        simp
      rw [es, compL_map hn l (acc ++ [y]) (fun b hb => ht b (List.mem_cons_of_mem _ hb)) (by simp; omega)]
      simp [ef]
theorem comp_map {α : Type} (l : List α) (gi : α → D) (fo : α → Option D) {it : DI} {g : DG} {t : DT} {a : DE} {vs : List Nat} {env : Env} {h h1 : Hh} (hi : it env h = .ok (l.map gi) h1)
    (ht : ∀ x ∈ l, ∀ acc, turnC g t a (wipe env vs) (gi x) (h1 ++ [some (.lst acc)]) = .ok (fo x) (h1 ++ [some (.lst acc)])) (hb : belows h1.length (l.filterMap fo) = true) (hz : l.length ≤ big) :
    eComp it g t a vs env h = .ok (.lst (l.filterMap fo)) h1 := by
  unfold eComp
  rw [hi, R.bind_ok, compL_map (n := h1.length) rfl l [] ht (by simpa using hz)]
  have at_ : (h1 ++ [some (O.lst ([] ++ l.filterMap fo))])[h1.length]? = some (some (.lst (l.filterMap fo))) := by
    rw [List.getElem?_append_right (Nat.le_refl _)]
    simp
  simp only [at_]
  have es : (h1 ++ [some (O.lst ([] ++ l.filterMap fo))]).set h1.length none = h1 ++ [none] := by
    rw [List.set_append_right _ _ (Nat.le_refl _)]
    simp
  rw [es]
  exact trim_app (by show belows h1.length _ = true; exact hb)
theorem allB_map {α : Type} (l : List α) (p : α → Bool) : allB (l.map fun a => D.bl (p a)) = some (l.all p) := by
  induction l with
  | nil => rfl
  | cons a l ih =>
    show (allB (l.map fun a => D.bl (p a))).map (fun c => p a && c) = _
    rw [ih]
    rfl
theorem filterMap_some {α β : Type} (l : List α) (f : α → β) : l.filterMap (fun a => some (f a)) = l.map f := by
  induction l with
  | nil => rfl
  | cons a l ih => simp [ih]
theorem whileN_step (t : DT) (b : DS) (n : Nat) (env : Env) (h : Hh) : whileN t b (n + 1) env h = (t env h).thenS env fun c h => if c then (match b env h with
      | .nx env h => whileN t b n env h
      | .ct env h => whileN t b n env h
      | .bk env h => .nx env h
      | r => r) else .nx env h := rfl
end Dn

/-! text Dk75b -/
set_option maxHeartbeats 1000000
set_option Elab.async false
set_option linter.all false
set_option maxRecDepth 100000
set_option autoImplicit false
set_option maxHeartbeats 4000000
/-! k75: what the pieces compute, in plain Lean: words. -/
namespace Dk75
open Dn
noncomputable abbrev tr (n : Nat) (g : DS) : Fn := fun ds h => trim h (run n g ds h)
/-- a sign that a text may hold -/
def signOk (c : Nat) : Bool := decide (32 ≤ c) && decide (c ≤ 126) && decide (c ≠ 34)
def letter (c : Nat) : Bool := decide (c ∈ S "abcdefghijklmnopqrstuvwxyz")
def barred (x : Tx) : Bool := [S "and", S "or", S "not", S "rest", S "size", S "part", S "why", S "where", S "to", S "by", S "go", S "call"].any fun y => x == y
def nameOk (x : Tx) : Bool := decide (1 ≤ x.length) && decide (x.length ≤ 8) && !barred x && x.all letter
noncomputable def A_is_whole : Fn := tr 3 g_is_whole
theorem is_whole_eq (i a b : Int) (h : Hh) : A_is_whole [.int i, .int a, .int b] h = .ok (.bl (decide (a ≤ i) && decide (i ≤ b))) h := by
  have e : run 3 g_is_whole [.int i, .int a, .int b] h = .ok (.bl (decide (a ≤ i) && decide (i ≤ b))) h := by
    unfold g_is_whole
    simp [run, start, sSeq, sSet, sNil, sExpr, sRet, sRetN, sIf, sNo, sPut, Dn.sFld, Dn.sFldAdd, sAug, eVar, eC, Dn.e1, Dn.e2, aNil, aCons, eTup, eLst, eCall, tE, tBl, Dn.tNot, Dn.tAnd, Dn.tOr, Dn.tYes, eIf, eAnd, eOr, eNot, eChain, eB, on1, on2, bLen, fLen, bIsi, fIsi, tyOf, isT, bAll, fAll, bAny, fAny, bStr, fStr, bInt, fInt, bAbs, fAbs, bMin, fMin, bTuple, fTuple, bList, fList, opAdd, opSub, opMul, opDiv, opMod, opPow, opNeg, opItem, opSlice, eSlice, oNone, oSome, opAddI, cEq, cNe, cLt, cLe, cGt, cGe, cIn, keyD, truth, deref, Dn.gName, Dn.gNil, Dn.gCons, Dn.gTup, Dn.gStar, R.bind_ok, R.bind_no, R.thenS_ok, R.thenS_no, RS.next_nx, RS.next_rt, RS.next_no, onG_ok, eFld, fget, fput, insOf, setF, eMeth, onIns, eBM, eBM0, tyD, mAppend, mPop, mExtend, mJoin, mFind, Dn.m0, Dn.m1, Dn.m2, eBox, eFrz, eMake, big]
    by_cases h1 : a ≤ i <;> simp [h1]
  show trim h _ = _
  rw [e, trim_same]
noncomputable def A_is_tuple : Fn := tr 3 g_is_tuple
theorem is_tuple_eq (ds : List D) (a b : Int) (h : Hh) : A_is_tuple [.tup ds, .int a, .int b] h = .ok (.bl (decide (a ≤ (ds.length : Int)) && decide ((ds.length : Int) ≤ b))) h := by
  have e : run 3 g_is_tuple [.tup ds, .int a, .int b] h = .ok (.bl (decide (a ≤ (ds.length : Int)) && decide ((ds.length : Int) ≤ b))) h := by
    unfold g_is_tuple
    simp [run, start, sSeq, sSet, sNil, sExpr, sRet, sRetN, sIf, sNo, sPut, Dn.sFld, Dn.sFldAdd, sAug, eVar, eC, Dn.e1, Dn.e2, aNil, aCons, eTup, eLst, eCall, tE, tBl, Dn.tNot, Dn.tAnd, Dn.tOr, Dn.tYes, eIf, eAnd, eOr, eNot, eChain, eB, on1, on2, bLen, fLen, bIsi, fIsi, tyOf, isT, bAll, fAll, bAny, fAny, bStr, fStr, bInt, fInt, bAbs, fAbs, bMin, fMin, bTuple, fTuple, bList, fList, opAdd, opSub, opMul, opDiv, opMod, opPow, opNeg, opItem, opSlice, eSlice, oNone, oSome, opAddI, cEq, cNe, cLt, cLe, cGt, cGe, cIn, keyD, truth, deref, Dn.gName, Dn.gNil, Dn.gCons, Dn.gTup, Dn.gStar, R.bind_ok, R.bind_no, R.thenS_ok, R.thenS_no, RS.next_nx, RS.next_rt, RS.next_no, onG_ok, eFld, fget, fput, insOf, setF, eMeth, onIns, eBM, eBM0, tyD, mAppend, mPop, mExtend, mJoin, mFind, Dn.m0, Dn.m1, Dn.m2, eBox, eFrz, eMake, big]
    by_cases h1 : a ≤ (ds.length : Int) <;> simp [h1]
  show trim h _ = _
  rw [e, trim_same]
theorem S_one (c : Char) : S (String.ofList [c]) = [c.toNat] := by simp [S]
theorem ltT_one (a b : Nat) : ltT [a] [b] = decide (a < b) := by
  unfold ltT
  rw [decide_eq_decide]
  constructor
  · intro h
    cases h with
    | rel h => exact h
    | cons h => cases h
  · exact fun h => .rel h
theorem sign_turn (env : Env) (c : Nat) (h : Hh) (v : Nat) (hv : v < env.length) : turnC (Dn.gName v) Dn.tYes (eAnd (eChain cLe cLe (eC (.str (S " "))) (eVar v) (eC (.str (S "~")))) (e2 cNe (eVar v) (eC (.str (S "\""))))) env (.str [c]) h = .ok (some (.bl (signOk c))) h := by
  have s1 : S " " = [32] := by decide
  have s2 : S "~" = [126] := by decide
  have s3 : S "\"" = [34] := by decide
  rw [s1, s2, s3]
  unfold turnC signOk
  have e0 : (env.set v (some (D.str [c])))[v]? = some (some (D.str [c])) := by simp [hv]
  simp [run, start, sSeq, sSet, sNil, sExpr, sRet, sRetN, sIf, sNo, sPut, Dn.sFld, Dn.sFldAdd, sAug, eVar, eC, Dn.e1, Dn.e2, aNil, aCons, eTup, eLst, eCall, tE, tBl, Dn.tNot, Dn.tAnd, Dn.tOr, Dn.tYes, eIf, eAnd, eOr, eNot, eChain, eB, on1, on2, bLen, fLen, bIsi, fIsi, tyOf, isT, bAll, fAll, bAny, fAny, bStr, fStr, bInt, fInt, bAbs, fAbs, bMin, fMin, bTuple, fTuple, bList, fList, opAdd, opSub, opMul, opDiv, opMod, opPow, opNeg, opItem, opSlice, eSlice, oNone, oSome, opAddI, cEq, cNe, cLt, cLe, cGt, cGe, cIn, keyD, truth, deref, Dn.gName, Dn.gNil, Dn.gCons, Dn.gTup, Dn.gStar, R.bind_ok, R.bind_no, R.thenS_ok, R.thenS_no, RS.next_nx, RS.next_rt, RS.next_no, onG_ok, eFld, fget, fput, insOf, setF, eMeth, onIns, eBM, eBM0, tyD, mAppend, mPop, mExtend, mJoin, mFind, Dn.m0, Dn.m1, Dn.m2, eBox, eFrz, eMake, big, e0, ltT_one, isData, eqv_ss, eqv_ii, eqv_bb, eqv_tt, eqv_ll, eqv_ts, eqv_st, eqvL_nn, eqvL_nc, eqvL_cn, eqvL_cc]
  by_cases h1 : c < 32
  · have : ¬ 32 ≤ c := by omega
    simp [h1, this]
  · have g1 : 32 ≤ c := by omega
    by_cases h2 : 126 < c
    · have : ¬ c ≤ 126 := by omega
      simp [h1, h2, this]
    · have g2 : c ≤ 126 := by omega
      simp [h1, h2, g1, g2]
      rfl
theorem letters_turn (env : Env) (c : Nat) (h : Hh) (v : Nat) (hv : v < env.length) : turnC (Dn.gName v) Dn.tYes (e2 cIn (eVar v) (eC k_LETTERS)) env (.str [c]) h = .ok (some (.bl (letter c))) h := by
  unfold turnC letter k_LETTERS
  have e0 : (env.set v (some (D.str [c])))[v]? = some (some (D.str [c])) := by simp [hv]
  simp [run, start, sSeq, sSet, sNil, sExpr, sRet, sRetN, sIf, sNo, sPut, Dn.sFld, Dn.sFldAdd, sAug, eVar, eC, Dn.e1, Dn.e2, aNil, aCons, eTup, eLst, eCall, tE, tBl, Dn.tNot, Dn.tAnd, Dn.tOr, Dn.tYes, eIf, eAnd, eOr, eNot, eChain, eB, on1, on2, bLen, fLen, bIsi, fIsi, tyOf, isT, bAll, fAll, bAny, fAny, bStr, fStr, bInt, fInt, bAbs, fAbs, bMin, fMin, bTuple, fTuple, bList, fList, opAdd, opSub, opMul, opDiv, opMod, opPow, opNeg, opItem, opSlice, eSlice, oNone, oSome, opAddI, cEq, cNe, cLt, cLe, cGt, cGe, cIn, keyD, truth, deref, Dn.gName, Dn.gNil, Dn.gCons, Dn.gTup, Dn.gStar, R.bind_ok, R.bind_no, R.thenS_ok, R.thenS_no, RS.next_nx, RS.next_rt, RS.next_no, onG_ok, eFld, fget, fput, insOf, setF, eMeth, onIns, eBM, eBM0, tyD, mAppend, mPop, mExtend, mJoin, mFind, Dn.m0, Dn.m1, Dn.m2, eBox, eFrz, eMake, big, e0]
theorem belows_bl {α : Type} (n : Nat) (l : List α) (p : α → Bool) : belows n (l.map fun a => D.bl (p a)) = true := by
  induction l with
  | nil => rfl
  | cons a l ih => simpa [belows, below] using ih
noncomputable def A_is_plain : Fn := tr 2 g_is_plain
theorem is_plain_eq (t : Tx) (h : Hh) (z : t.length ≤ big) : A_is_plain [.str t] h = .ok (.bl (t.all signOk)) h := by
  have e : run 2 g_is_plain [.str t] h = .ok (.bl (t.all signOk)) h := by
    unfold g_is_plain
    have c := comp_map t (fun c => D.str [c]) (fun c => some (.bl (signOk c))) (it := iE itS (eVar 0)) (g := Dn.gName 1) (t := Dn.tYes) (a := eAnd (eChain cLe cLe (eC (.str (S " "))) (eVar 1) (eC (.str (S "~")))) (e2 cNe (eVar 1) (eC (.str (S "\""))))) (vs := [1]) (env := [some (.str t), none]) (h := h) (h1 := h)
      (by simp [iE, itS, run, start, sSeq, sSet, sNil, sExpr, sRet, sRetN, sIf, sNo, sPut, Dn.sFld, Dn.sFldAdd, sAug, eVar, eC, Dn.e1, Dn.e2, aNil, aCons, eTup, eLst, eCall, tE, tBl, Dn.tNot, Dn.tAnd, Dn.tOr, Dn.tYes, eIf, eAnd, eOr, eNot, eChain, eB, on1, on2, bLen, fLen, bIsi, fIsi, tyOf, isT, bAll, fAll, bAny, fAny, bStr, fStr, bInt, fInt, bAbs, fAbs, bMin, fMin, bTuple, fTuple, bList, fList, opAdd, opSub, opMul, opDiv, opMod, opPow, opNeg, opItem, opSlice, eSlice, oNone, oSome, opAddI, cEq, cNe, cLt, cLe, cGt, cGe, cIn, keyD, truth, deref, Dn.gName, Dn.gNil, Dn.gCons, Dn.gTup, Dn.gStar, R.bind_ok, R.bind_no, R.thenS_ok, R.thenS_no, RS.next_nx, RS.next_rt, RS.next_no, onG_ok, eFld, fget, fput, insOf, setF, eMeth, onIns, eBM, eBM0, tyD, mAppend, mPop, mExtend, mJoin, mFind, Dn.m0, Dn.m1, Dn.m2, eBox, eFrz, eMake, big]) (fun c _ acc => sign_turn _ c _ 1 (by simp [wipe])) (by rw [filterMap_some]; exact belows_bl _ _ _) z
    rw [filterMap_some] at c
    simp [run, start, sSeq, sSet, sNil, sExpr, sRet, sRetN, sIf, sNo, sPut, Dn.sFld, Dn.sFldAdd, sAug, eVar, eC, Dn.e1, Dn.e2, aNil, aCons, eTup, eLst, eCall, tE, tBl, Dn.tNot, Dn.tAnd, Dn.tOr, Dn.tYes, eIf, eAnd, eOr, eNot, eChain, eB, on1, on2, bLen, fLen, bIsi, fIsi, tyOf, isT, bAll, fAll, bAny, fAny, bStr, fStr, bInt, fInt, bAbs, fAbs, bMin, fMin, bTuple, fTuple, bList, fList, opAdd, opSub, opMul, opDiv, opMod, opPow, opNeg, opItem, opSlice, eSlice, oNone, oSome, opAddI, cEq, cNe, cLt, cLe, cGt, cGe, cIn, keyD, truth, deref, Dn.gName, Dn.gNil, Dn.gCons, Dn.gTup, Dn.gStar, R.bind_ok, R.bind_no, R.thenS_ok, R.thenS_no, RS.next_nx, RS.next_rt, RS.next_no, onG_ok, eFld, fget, fput, insOf, setF, eMeth, onIns, eBM, eBM0, tyD, mAppend, mPop, mExtend, mJoin, mFind, Dn.m0, Dn.m1, Dn.m2, eBox, eFrz, eMake, big, c, allB_map]
  show trim h _ = _
  rw [e, trim_same]
noncomputable def A_is_text : Fn := tr 2 g_is_text
def textOk (t : Tx) : Bool := decide (t.length ≤ 100) && t.all signOk
theorem is_text_eq (t : Tx) (h : Hh) : A_is_text [.str t] h = .ok (.bl (textOk t)) h := by
  have e : run 2 g_is_text [.str t] h = .ok (.bl (textOk t)) h := by
    unfold g_is_text textOk
    by_cases z : t.length ≤ 100
    · have zz : ¬ (100 : Int) < (t.length : Int) := by omega
      have c := comp_map t (fun c => D.str [c]) (fun c => some (.bl (signOk c))) (it := iE itS (eVar 0)) (g := Dn.gName 1) (t := Dn.tYes) (a := eAnd (eChain cLe cLe (eC (.str (S " "))) (eVar 1) (eC (.str (S "~")))) (e2 cNe (eVar 1) (eC (.str (S "\""))))) (vs := [1]) (env := [some (.str t), none]) (h := h) (h1 := h)
        (by simp [iE, itS, run, start, sSeq, sSet, sNil, sExpr, sRet, sRetN, sIf, sNo, sPut, Dn.sFld, Dn.sFldAdd, sAug, eVar, eC, Dn.e1, Dn.e2, aNil, aCons, eTup, eLst, eCall, tE, tBl, Dn.tNot, Dn.tAnd, Dn.tOr, Dn.tYes, eIf, eAnd, eOr, eNot, eChain, eB, on1, on2, bLen, fLen, bIsi, fIsi, tyOf, isT, bAll, fAll, bAny, fAny, bStr, fStr, bInt, fInt, bAbs, fAbs, bMin, fMin, bTuple, fTuple, bList, fList, opAdd, opSub, opMul, opDiv, opMod, opPow, opNeg, opItem, opSlice, eSlice, oNone, oSome, opAddI, cEq, cNe, cLt, cLe, cGt, cGe, cIn, keyD, truth, deref, Dn.gName, Dn.gNil, Dn.gCons, Dn.gTup, Dn.gStar, R.bind_ok, R.bind_no, R.thenS_ok, R.thenS_no, RS.next_nx, RS.next_rt, RS.next_no, onG_ok, eFld, fget, fput, insOf, setF, eMeth, onIns, eBM, eBM0, tyD, mAppend, mPop, mExtend, mJoin, mFind, Dn.m0, Dn.m1, Dn.m2, eBox, eFrz, eMake, big]) (fun c _ acc => sign_turn _ c _ 1 (by simp [wipe])) (by rw [filterMap_some]; exact belows_bl _ _ _) (Nat.le_trans z (by decide))
      rw [filterMap_some] at c
      simp [run, start, sSeq, sSet, sNil, sExpr, sRet, sRetN, sIf, sNo, sPut, Dn.sFld, Dn.sFldAdd, sAug, eVar, eC, Dn.e1, Dn.e2, aNil, aCons, eTup, eLst, eCall, tE, tBl, Dn.tNot, Dn.tAnd, Dn.tOr, Dn.tYes, eIf, eAnd, eOr, eNot, eChain, eB, on1, on2, bLen, fLen, bIsi, fIsi, tyOf, isT, bAll, fAll, bAny, fAny, bStr, fStr, bInt, fInt, bAbs, fAbs, bMin, fMin, bTuple, fTuple, bList, fList, opAdd, opSub, opMul, opDiv, opMod, opPow, opNeg, opItem, opSlice, eSlice, oNone, oSome, opAddI, cEq, cNe, cLt, cLe, cGt, cGe, cIn, keyD, truth, deref, Dn.gName, Dn.gNil, Dn.gCons, Dn.gTup, Dn.gStar, R.bind_ok, R.bind_no, R.thenS_ok, R.thenS_no, RS.next_nx, RS.next_rt, RS.next_no, onG_ok, eFld, fget, fput, insOf, setF, eMeth, onIns, eBM, eBM0, tyD, mAppend, mPop, mExtend, mJoin, mFind, Dn.m0, Dn.m1, Dn.m2, eBox, eFrz, eMake, big, c, allB_map, k_LONGEST_TEXT, z, zz]
    · have zz : (100 : Int) < (t.length : Int) := by omega
      simp [run, start, sSeq, sSet, sNil, sExpr, sRet, sRetN, sIf, sNo, sPut, Dn.sFld, Dn.sFldAdd, sAug, eVar, eC, Dn.e1, Dn.e2, aNil, aCons, eTup, eLst, eCall, tE, tBl, Dn.tNot, Dn.tAnd, Dn.tOr, Dn.tYes, eIf, eAnd, eOr, eNot, eChain, eB, on1, on2, bLen, fLen, bIsi, fIsi, tyOf, isT, bAll, fAll, bAny, fAny, bStr, fStr, bInt, fInt, bAbs, fAbs, bMin, fMin, bTuple, fTuple, bList, fList, opAdd, opSub, opMul, opDiv, opMod, opPow, opNeg, opItem, opSlice, eSlice, oNone, oSome, opAddI, cEq, cNe, cLt, cLe, cGt, cGe, cIn, keyD, truth, deref, Dn.gName, Dn.gNil, Dn.gCons, Dn.gTup, Dn.gStar, R.bind_ok, R.bind_no, R.thenS_ok, R.thenS_no, RS.next_nx, RS.next_rt, RS.next_no, onG_ok, eFld, fget, fput, insOf, setF, eMeth, onIns, eBM, eBM0, tyD, mAppend, mPop, mExtend, mJoin, mFind, Dn.m0, Dn.m1, Dn.m2, eBox, eFrz, eMake, big, k_LONGEST_TEXT, z, zz]
  show trim h _ = _
  rw [e, trim_same]
noncomputable def A_is_name : Fn := tr 2 g_is_name
theorem is_name_eq (t : Tx) (h : Hh) (z : t.length ≤ big) : A_is_name [.str t] h = .ok (.bl (nameOk t)) h := by
  have e : run 2 g_is_name [.str t] h = .ok (.bl (nameOk t)) h := by
    unfold g_is_name nameOk
    have c := comp_map t (fun c => D.str [c]) (fun c => some (.bl (letter c))) (it := iE itS (eVar 0)) (g := Dn.gName 1) (t := Dn.tYes) (a := e2 cIn (eVar 1) (eC k_LETTERS)) (vs := [1]) (env := [some (.str t), none]) (h := h) (h1 := h)
      (by simp [iE, itS, run, start, sSeq, sSet, sNil, sExpr, sRet, sRetN, sIf, sNo, sPut, Dn.sFld, Dn.sFldAdd, sAug, eVar, eC, Dn.e1, Dn.e2, aNil, aCons, eTup, eLst, eCall, tE, tBl, Dn.tNot, Dn.tAnd, Dn.tOr, Dn.tYes, eIf, eAnd, eOr, eNot, eChain, eB, on1, on2, bLen, fLen, bIsi, fIsi, tyOf, isT, bAll, fAll, bAny, fAny, bStr, fStr, bInt, fInt, bAbs, fAbs, bMin, fMin, bTuple, fTuple, bList, fList, opAdd, opSub, opMul, opDiv, opMod, opPow, opNeg, opItem, opSlice, eSlice, oNone, oSome, opAddI, cEq, cNe, cLt, cLe, cGt, cGe, cIn, keyD, truth, deref, Dn.gName, Dn.gNil, Dn.gCons, Dn.gTup, Dn.gStar, R.bind_ok, R.bind_no, R.thenS_ok, R.thenS_no, RS.next_nx, RS.next_rt, RS.next_no, onG_ok, eFld, fget, fput, insOf, setF, eMeth, onIns, eBM, eBM0, tyD, mAppend, mPop, mExtend, mJoin, mFind, Dn.m0, Dn.m1, Dn.m2, eBox, eFrz, eMake, big]) (fun c _ acc => letters_turn _ c _ 1 (by simp [wipe])) (by rw [filterMap_some]; exact belows_bl _ _ _) z
    rw [filterMap_some] at c
    have b : ∀ h : Hh, cIn (.str t) k_BARRED h = .ok (.bl (barred t)) h := fun h => by
      simp [cIn, k_BARRED, flatD, barred, eqv_ss, eqv_ii, eqv_bb, eqv_tt, eqv_ll, eqv_ts, eqv_st, eqvL_nn, eqvL_nc, eqvL_cn, eqvL_cc, Bool.beq_comm]
    by_cases z1 : 1 ≤ t.length
    · by_cases z2 : t.length ≤ 8
      · have y1 : (1 : Int) ≤ (t.length : Int) := by omega
        have y2 : (t.length : Int) ≤ 8 := by omega
        cases e : barred t <;> simp [run, start, sSeq, sSet, sNil, sExpr, sRet, sRetN, sIf, sNo, sPut, Dn.sFld, Dn.sFldAdd, sAug, eVar, eC, Dn.e1, Dn.e2, aNil, aCons, eTup, eLst, eCall, tE, tBl, Dn.tNot, Dn.tAnd, Dn.tOr, Dn.tYes, eIf, eAnd, eOr, eNot, eChain, eB, on1, on2, bLen, fLen, bIsi, fIsi, tyOf, isT, bAll, fAll, bAny, fAny, bStr, fStr, bInt, fInt, bAbs, fAbs, bMin, fMin, bTuple, fTuple, bList, fList, opAdd, opSub, opMul, opDiv, opMod, opPow, opNeg, opItem, opSlice, eSlice, oNone, oSome, opAddI, cEq, cNe, cLt, cLe, cGt, cGe, keyD, truth, deref, Dn.gName, Dn.gNil, Dn.gCons, Dn.gTup, Dn.gStar, R.bind_ok, R.bind_no, R.thenS_ok, R.thenS_no, RS.next_nx, RS.next_rt, RS.next_no, onG_ok, eFld, fget, fput, insOf, setF, eMeth, onIns, eBM, eBM0, tyD, mAppend, mPop, mExtend, mJoin, mFind, Dn.m0, Dn.m1, Dn.m2, eBox, eFrz, eMake, big, c, allB_map, k_LONGEST_NAME, z1, z2, y1, y2, b, e]
      · have y1 : (1 : Int) ≤ (t.length : Int) := by omega
        have y2 : ¬ (t.length : Int) ≤ 8 := by omega
        simp [run, start, sSeq, sSet, sNil, sExpr, sRet, sRetN, sIf, sNo, sPut, Dn.sFld, Dn.sFldAdd, sAug, eVar, eC, Dn.e1, Dn.e2, aNil, aCons, eTup, eLst, eCall, tE, tBl, Dn.tNot, Dn.tAnd, Dn.tOr, Dn.tYes, eIf, eAnd, eOr, eNot, eChain, eB, on1, on2, bLen, fLen, bIsi, fIsi, tyOf, isT, bAll, fAll, bAny, fAny, bStr, fStr, bInt, fInt, bAbs, fAbs, bMin, fMin, bTuple, fTuple, bList, fList, opAdd, opSub, opMul, opDiv, opMod, opPow, opNeg, opItem, opSlice, eSlice, oNone, oSome, opAddI, cEq, cNe, cLt, cLe, cGt, cGe, cIn, keyD, truth, deref, Dn.gName, Dn.gNil, Dn.gCons, Dn.gTup, Dn.gStar, R.bind_ok, R.bind_no, R.thenS_ok, R.thenS_no, RS.next_nx, RS.next_rt, RS.next_no, onG_ok, eFld, fget, fput, insOf, setF, eMeth, onIns, eBM, eBM0, tyD, mAppend, mPop, mExtend, mJoin, mFind, Dn.m0, Dn.m1, Dn.m2, eBox, eFrz, eMake, big, k_LONGEST_NAME, z1, z2, y1, y2]
    · have y1 : ¬ (1 : Int) ≤ (t.length : Int) := by omega
      simp [run, start, sSeq, sSet, sNil, sExpr, sRet, sRetN, sIf, sNo, sPut, Dn.sFld, Dn.sFldAdd, sAug, eVar, eC, Dn.e1, Dn.e2, aNil, aCons, eTup, eLst, eCall, tE, tBl, Dn.tNot, Dn.tAnd, Dn.tOr, Dn.tYes, eIf, eAnd, eOr, eNot, eChain, eB, on1, on2, bLen, fLen, bIsi, fIsi, tyOf, isT, bAll, fAll, bAny, fAny, bStr, fStr, bInt, fInt, bAbs, fAbs, bMin, fMin, bTuple, fTuple, bList, fList, opAdd, opSub, opMul, opDiv, opMod, opPow, opNeg, opItem, opSlice, eSlice, oNone, oSome, opAddI, cEq, cNe, cLt, cLe, cGt, cGe, cIn, keyD, truth, deref, Dn.gName, Dn.gNil, Dn.gCons, Dn.gTup, Dn.gStar, R.bind_ok, R.bind_no, R.thenS_ok, R.thenS_no, RS.next_nx, RS.next_rt, RS.next_no, onG_ok, eFld, fget, fput, insOf, setF, eMeth, onIns, eBM, eBM0, tyD, mAppend, mPop, mExtend, mJoin, mFind, Dn.m0, Dn.m1, Dn.m2, eBox, eFrz, eMake, big, k_LONGEST_NAME, z1, y1]
  show trim h _ = _
  rw [e, trim_same]
end Dk75

/-! text Dk75c -/
set_option maxHeartbeats 1000000
set_option Elab.async false
set_option linter.all false
set_option maxRecDepth 100000
set_option autoImplicit false
set_option maxHeartbeats 4000000
/-! k75: expressions as a type; their parts and form. -/
namespace Dk75
open Dn
inductive Ex where
  | num (n : Nat) | txt (t : Tx) | box (x : Tx) | two (op : Tx) (a b : Ex) | cell (x : Tx) (a : Ex) | fit (x : Tx) (a : Ex) | one (w : Tx) (a : Ex) | part (a b c : Ex) | alone (w : Tx)
def toD : Ex → D
  | .num n => .tup [.str (S "number"), .int n]
  | .txt t => .tup [.str (S "text"), .str t]
  | .box x => .tup [.str (S "box"), .str x]
  | .two op a b => .tup [.str op, toD a, toD b]
  | .cell x a => .tup [.str (S "cell"), .str x, toD a]
  | .fit x a => .tup [.str (S "fit"), .str x, toD a]
  | .one w a => .tup [.str w, toD a]
  | .part a b c => .tup [.str (S "part"), toD a, toD b, toD c]
  | .alone w => .tup [.str w]
def OPS : List Tx := [S "+", S "-", S "*", S "/", S "rest", S "<", S "=", S ">", S "and", S "or"]
def W1 : List Tx := [S "not", S "size"]
def W0 : List Tx := [S "why", S "where"]
def good : Ex → Prop
  | .num n => n ≤ 1000000000000
  | .txt t => textOk t = true
  | .box x => nameOk x = true
  | .two op a b => op ∈ OPS ∧ good a ∧ good b
  | .cell x a => nameOk x = true ∧ good a
  | .fit x a => nameOk x = true ∧ good a
  | .one w a => w ∈ W1 ∧ good a
  | .part a b c => good a ∧ good b ∧ good c
  | .alone w => w ∈ W0
def kids : Ex → List Ex
  | .two _ a b => [a, b]
  | .cell _ a => [a]
  | .fit _ a => [a]
  | .one _ a => [a]
  | .part a b c => [a, b, c]
  | _ => []
def dep : Ex → Nat
  | .two _ a b => max (dep a) (dep b) + 1
  | .cell _ a => dep a + 1
  | .fit _ a => dep a + 1
  | .one _ a => dep a + 1
  | .part a b c => max (dep a) (max (dep b) (dep c)) + 1
  | _ => 1
theorem dep_kids {e k : Ex} (h : k ∈ kids e) : dep k < dep e := by
  cases e <;> simp [kids] at h <;> (try (rcases h with rfl | rfl | rfl)) <;> (try (rcases h with rfl | rfl)) <;> (try subst h) <;> simp [dep] <;> omega
theorem good_kids {e k : Ex} (g : good e) (h : k ∈ kids e) : good k := by
  cases e <;> simp [kids] at h <;> simp [good] at g <;> (try (rcases h with rfl | rfl | rfl)) <;> (try (rcases h with rfl | rfl)) <;> (try subst h) <;> simp [g]
theorem S_beq (a b : String) : (S a == S b) = (a == b) := by
  rw [Bool.eq_iff_iff, beq_iff_eq, beq_iff_eq, S_inj]
theorem nameOk_len {x : Tx} (h : nameOk x = true) : 1 ≤ x.length ∧ x.length ≤ 8 := by
  simp [nameOk] at h
  omega
theorem data_toD : ∀ (e : Ex) (n : Nat), dep e ≤ n → isData n (toD e) = true
  | .num _, n + 1, _ => rfl
  | .txt _, n + 1, _ => rfl
  | .box _, n + 1, _ => rfl
  | .alone _, n + 1, _ => rfl
  | .num _, 0, h => by simp [dep] at h
  | .txt _, 0, h => by simp [dep] at h
  | .box _, 0, h => by simp [dep] at h
  | .alone _, 0, h => by simp [dep] at h
  | .two op a b, 0, h => by simp [dep] at h
  | .cell _ a, 0, h => by simp [dep] at h
  | .fit _ a, 0, h => by simp [dep] at h
  | .one _ a, 0, h => by simp [dep] at h
  | .part a b c, 0, h => by simp [dep] at h
  | .two op a b, n + 1, h => by
    simp only [dep] at h
    have h1 := data_toD a n (by omega)
    have h2 := data_toD b n (by omega)
    simp [toD, isData, areData, h1, h2]
  | .cell _ a, n + 1, h => by
    simp only [dep] at h
    have h1 := data_toD a n (by omega)
    simp [toD, isData, areData, h1]
  | .fit _ a, n + 1, h => by
    simp only [dep] at h
    have h1 := data_toD a n (by omega)
    simp [toD, isData, areData, h1]
  | .one _ a, n + 1, h => by
    simp only [dep] at h
    have h1 := data_toD a n (by omega)
    simp [toD, isData, areData, h1]
  | .part a b c, n + 1, h => by
    simp only [dep] at h
    have h1 := data_toD a n (by omega)
    have h2 := data_toD b n (by omega)
    have h3 := data_toD c n (by omega)
    simp [toD, isData, areData, h1, h2, h3]
/-- a sign's word is no other word -/
theorem op_facts {op : Tx} (h : op ∈ OPS) : ((op == S "number") = false ∧ (op == S "text") = false ∧ (op == S "box") = false ∧ (op == S "cell") = false ∧ (op == S "fit") = false) ∧
    ((S "number" == op) = false ∧ (S "text" == op) = false ∧ (S "box" == op) = false ∧ (S "cell" == op) = false ∧ (S "fit" == op) = false) ∧ (∀ hh : Hh, cIn (.str op) k_SIGNS_words hh = .ok (.bl true) hh) ∧ (∀ hh : Hh, cIn (.str op) (.tup [.str (S "number"), .str (S "text")]) hh = .ok (.bl false) hh) ∧ (∀ hh : Hh, cIn (.str op) (.tup [.str (S "cell"), .str (S "fit")]) hh = .ok (.bl false) hh) ∧
    (∀ hh : Hh, cEq (.str op) (.str (S "box")) hh = .ok (.bl false) hh) ∧ (∀ hh : Hh, cEq (.str op) (.str (S "number")) hh = .ok (.bl false) hh) ∧ (∀ hh : Hh, cEq (.str op) (.str (S "text")) hh = .ok (.bl false) hh) ∧ op.length ≤ 4 := by
  simp only [OPS, List.mem_cons, List.not_mem_nil, or_false] at h
  rcases h with rfl | rfl | rfl | rfl | rfl | rfl | rfl | rfl | rfl | rfl <;> exact ⟨⟨rfl, rfl, rfl, rfl, rfl⟩, ⟨rfl, rfl, rfl, rfl, rfl⟩, fun _ => rfl, fun _ => rfl, fun _ => rfl, fun _ => rfl, fun _ => rfl, fun _ => rfl, by decide⟩
noncomputable def A_parts_of : Fn := tr 3 g_parts_of
theorem parts_of_eq (e : Ex) (g : good e) (h : Hh) : A_parts_of [toD e] h = .ok (.lst ((kids e).map toD)) h := by
  have x : run 3 g_parts_of [toD e] h = .ok (.lst ((kids e).map toD)) h := by
    unfold g_parts_of
    cases e with
    | num n => simp [run, start, sSeq, sSet, sNil, sExpr, sRet, sRetN, sIf, sNo, sPut, Dn.sFld, Dn.sFldAdd, sAug, eVar, eC, Dn.e1, Dn.e2, aNil, aCons, eTup, eLst, eCall, tE, tBl, Dn.tNot, Dn.tAnd, Dn.tOr, Dn.tYes, eIf, eAnd, eOr, eNot, eChain, eB, on1, on2, bLen, fLen, bIsi, fIsi, tyOf, isT, bAll, fAll, bAny, fAny, bStr, fStr, bInt, fInt, bAbs, fAbs, bMin, fMin, bTuple, fTuple, bList, fList, opAdd, opSub, opMul, opDiv, opMod, opPow, opNeg, opItem, opSlice, eSlice, oNone, oSome, opAddI, cEq, cNe, cLt, cLe, cGt, cGe, cIn, keyD, truth, deref, Dn.gName, Dn.gNil, Dn.gCons, Dn.gTup, Dn.gStar, R.bind_ok, R.bind_no, R.thenS_ok, R.thenS_no, RS.next_nx, RS.next_rt, RS.next_no, onG_ok, eFld, fget, fput, insOf, setF, eMeth, onIns, eBM, eBM0, tyD, mAppend, mPop, mExtend, mJoin, mFind, Dn.m0, Dn.m1, Dn.m2, eBox, eFrz, eMake, big, toD, kids, eqv_ss, eqv_ii, eqv_bb, eqv_tt, eqv_ll, eqv_ts, eqv_st, eqvL_nn, eqvL_nc, eqvL_cn, eqvL_cc, flatD, S_beq]
    | txt n => simp [run, start, sSeq, sSet, sNil, sExpr, sRet, sRetN, sIf, sNo, sPut, Dn.sFld, Dn.sFldAdd, sAug, eVar, eC, Dn.e1, Dn.e2, aNil, aCons, eTup, eLst, eCall, tE, tBl, Dn.tNot, Dn.tAnd, Dn.tOr, Dn.tYes, eIf, eAnd, eOr, eNot, eChain, eB, on1, on2, bLen, fLen, bIsi, fIsi, tyOf, isT, bAll, fAll, bAny, fAny, bStr, fStr, bInt, fInt, bAbs, fAbs, bMin, fMin, bTuple, fTuple, bList, fList, opAdd, opSub, opMul, opDiv, opMod, opPow, opNeg, opItem, opSlice, eSlice, oNone, oSome, opAddI, cEq, cNe, cLt, cLe, cGt, cGe, cIn, keyD, truth, deref, Dn.gName, Dn.gNil, Dn.gCons, Dn.gTup, Dn.gStar, R.bind_ok, R.bind_no, R.thenS_ok, R.thenS_no, RS.next_nx, RS.next_rt, RS.next_no, onG_ok, eFld, fget, fput, insOf, setF, eMeth, onIns, eBM, eBM0, tyD, mAppend, mPop, mExtend, mJoin, mFind, Dn.m0, Dn.m1, Dn.m2, eBox, eFrz, eMake, big, toD, kids, eqv_ss, eqv_ii, eqv_bb, eqv_tt, eqv_ll, eqv_ts, eqv_st, eqvL_nn, eqvL_nc, eqvL_cn, eqvL_cc, flatD, S_beq]
    | box n => simp [run, start, sSeq, sSet, sNil, sExpr, sRet, sRetN, sIf, sNo, sPut, Dn.sFld, Dn.sFldAdd, sAug, eVar, eC, Dn.e1, Dn.e2, aNil, aCons, eTup, eLst, eCall, tE, tBl, Dn.tNot, Dn.tAnd, Dn.tOr, Dn.tYes, eIf, eAnd, eOr, eNot, eChain, eB, on1, on2, bLen, fLen, bIsi, fIsi, tyOf, isT, bAll, fAll, bAny, fAny, bStr, fStr, bInt, fInt, bAbs, fAbs, bMin, fMin, bTuple, fTuple, bList, fList, opAdd, opSub, opMul, opDiv, opMod, opPow, opNeg, opItem, opSlice, eSlice, oNone, oSome, opAddI, cEq, cNe, cLt, cLe, cGt, cGe, cIn, keyD, truth, deref, Dn.gName, Dn.gNil, Dn.gCons, Dn.gTup, Dn.gStar, R.bind_ok, R.bind_no, R.thenS_ok, R.thenS_no, RS.next_nx, RS.next_rt, RS.next_no, onG_ok, eFld, fget, fput, insOf, setF, eMeth, onIns, eBM, eBM0, tyD, mAppend, mPop, mExtend, mJoin, mFind, Dn.m0, Dn.m1, Dn.m2, eBox, eFrz, eMake, big, toD, kids, eqv_ss, eqv_ii, eqv_bb, eqv_tt, eqv_ll, eqv_ts, eqv_st, eqvL_nn, eqvL_nc, eqvL_cn, eqvL_cc, flatD, S_beq]
    | two op a b =>
      obtain ⟨⟨a1, a2, a3, a4, a5⟩, ⟨b1, b2, b3, b4, b5⟩, _⟩ := op_facts g.1
      simp [run, start, sSeq, sSet, sNil, sExpr, sRet, sRetN, sIf, sNo, sPut, Dn.sFld, Dn.sFldAdd, sAug, eVar, eC, Dn.e1, Dn.e2, aNil, aCons, eTup, eLst, eCall, tE, tBl, Dn.tNot, Dn.tAnd, Dn.tOr, Dn.tYes, eIf, eAnd, eOr, eNot, eChain, eB, on1, on2, bLen, fLen, bIsi, fIsi, tyOf, isT, bAll, fAll, bAny, fAny, bStr, fStr, bInt, fInt, bAbs, fAbs, bMin, fMin, bTuple, fTuple, bList, fList, opAdd, opSub, opMul, opDiv, opMod, opPow, opNeg, opItem, opSlice, eSlice, oNone, oSome, opAddI, cEq, cNe, cLt, cLe, cGt, cGe, cIn, keyD, truth, deref, Dn.gName, Dn.gNil, Dn.gCons, Dn.gTup, Dn.gStar, R.bind_ok, R.bind_no, R.thenS_ok, R.thenS_no, RS.next_nx, RS.next_rt, RS.next_no, onG_ok, eFld, fget, fput, insOf, setF, eMeth, onIns, eBM, eBM0, tyD, mAppend, mPop, mExtend, mJoin, mFind, Dn.m0, Dn.m1, Dn.m2, eBox, eFrz, eMake, big, toD, kids, eqv_ss, eqv_ii, eqv_bb, eqv_tt, eqv_ll, eqv_ts, eqv_st, eqvL_nn, eqvL_nc, eqvL_cn, eqvL_cc, flatD, b1, b2, b3, b4, b5]
    | cell n a => simp [run, start, sSeq, sSet, sNil, sExpr, sRet, sRetN, sIf, sNo, sPut, Dn.sFld, Dn.sFldAdd, sAug, eVar, eC, Dn.e1, Dn.e2, aNil, aCons, eTup, eLst, eCall, tE, tBl, Dn.tNot, Dn.tAnd, Dn.tOr, Dn.tYes, eIf, eAnd, eOr, eNot, eChain, eB, on1, on2, bLen, fLen, bIsi, fIsi, tyOf, isT, bAll, fAll, bAny, fAny, bStr, fStr, bInt, fInt, bAbs, fAbs, bMin, fMin, bTuple, fTuple, bList, fList, opAdd, opSub, opMul, opDiv, opMod, opPow, opNeg, opItem, opSlice, eSlice, oNone, oSome, opAddI, cEq, cNe, cLt, cLe, cGt, cGe, cIn, keyD, truth, deref, Dn.gName, Dn.gNil, Dn.gCons, Dn.gTup, Dn.gStar, R.bind_ok, R.bind_no, R.thenS_ok, R.thenS_no, RS.next_nx, RS.next_rt, RS.next_no, onG_ok, eFld, fget, fput, insOf, setF, eMeth, onIns, eBM, eBM0, tyD, mAppend, mPop, mExtend, mJoin, mFind, Dn.m0, Dn.m1, Dn.m2, eBox, eFrz, eMake, big, toD, kids, eqv_ss, eqv_ii, eqv_bb, eqv_tt, eqv_ll, eqv_ts, eqv_st, eqvL_nn, eqvL_nc, eqvL_cn, eqvL_cc, flatD, S_beq, slc, clampI]
    | fit n a => simp [run, start, sSeq, sSet, sNil, sExpr, sRet, sRetN, sIf, sNo, sPut, Dn.sFld, Dn.sFldAdd, sAug, eVar, eC, Dn.e1, Dn.e2, aNil, aCons, eTup, eLst, eCall, tE, tBl, Dn.tNot, Dn.tAnd, Dn.tOr, Dn.tYes, eIf, eAnd, eOr, eNot, eChain, eB, on1, on2, bLen, fLen, bIsi, fIsi, tyOf, isT, bAll, fAll, bAny, fAny, bStr, fStr, bInt, fInt, bAbs, fAbs, bMin, fMin, bTuple, fTuple, bList, fList, opAdd, opSub, opMul, opDiv, opMod, opPow, opNeg, opItem, opSlice, eSlice, oNone, oSome, opAddI, cEq, cNe, cLt, cLe, cGt, cGe, cIn, keyD, truth, deref, Dn.gName, Dn.gNil, Dn.gCons, Dn.gTup, Dn.gStar, R.bind_ok, R.bind_no, R.thenS_ok, R.thenS_no, RS.next_nx, RS.next_rt, RS.next_no, onG_ok, eFld, fget, fput, insOf, setF, eMeth, onIns, eBM, eBM0, tyD, mAppend, mPop, mExtend, mJoin, mFind, Dn.m0, Dn.m1, Dn.m2, eBox, eFrz, eMake, big, toD, kids, eqv_ss, eqv_ii, eqv_bb, eqv_tt, eqv_ll, eqv_ts, eqv_st, eqvL_nn, eqvL_nc, eqvL_cn, eqvL_cc, flatD, S_beq, slc, clampI]
    | one w a =>
      have g1 := g.1
      simp only [W1, List.mem_cons, List.not_mem_nil, or_false] at g1
      rcases g1 with rfl | rfl <;> simp [run, start, sSeq, sSet, sNil, sExpr, sRet, sRetN, sIf, sNo, sPut, Dn.sFld, Dn.sFldAdd, sAug, eVar, eC, Dn.e1, Dn.e2, aNil, aCons, eTup, eLst, eCall, tE, tBl, Dn.tNot, Dn.tAnd, Dn.tOr, Dn.tYes, eIf, eAnd, eOr, eNot, eChain, eB, on1, on2, bLen, fLen, bIsi, fIsi, tyOf, isT, bAll, fAll, bAny, fAny, bStr, fStr, bInt, fInt, bAbs, fAbs, bMin, fMin, bTuple, fTuple, bList, fList, opAdd, opSub, opMul, opDiv, opMod, opPow, opNeg, opItem, opSlice, eSlice, oNone, oSome, opAddI, cEq, cNe, cLt, cLe, cGt, cGe, cIn, keyD, truth, deref, Dn.gName, Dn.gNil, Dn.gCons, Dn.gTup, Dn.gStar, R.bind_ok, R.bind_no, R.thenS_ok, R.thenS_no, RS.next_nx, RS.next_rt, RS.next_no, onG_ok, eFld, fget, fput, insOf, setF, eMeth, onIns, eBM, eBM0, tyD, mAppend, mPop, mExtend, mJoin, mFind, Dn.m0, Dn.m1, Dn.m2, eBox, eFrz, eMake, big, toD, kids, eqv_ss, eqv_ii, eqv_bb, eqv_tt, eqv_ll, eqv_ts, eqv_st, eqvL_nn, eqvL_nc, eqvL_cn, eqvL_cc, flatD, S_beq]
    | part a b c => simp [run, start, sSeq, sSet, sNil, sExpr, sRet, sRetN, sIf, sNo, sPut, Dn.sFld, Dn.sFldAdd, sAug, eVar, eC, Dn.e1, Dn.e2, aNil, aCons, eTup, eLst, eCall, tE, tBl, Dn.tNot, Dn.tAnd, Dn.tOr, Dn.tYes, eIf, eAnd, eOr, eNot, eChain, eB, on1, on2, bLen, fLen, bIsi, fIsi, tyOf, isT, bAll, fAll, bAny, fAny, bStr, fStr, bInt, fInt, bAbs, fAbs, bMin, fMin, bTuple, fTuple, bList, fList, opAdd, opSub, opMul, opDiv, opMod, opPow, opNeg, opItem, opSlice, eSlice, oNone, oSome, opAddI, cEq, cNe, cLt, cLe, cGt, cGe, cIn, keyD, truth, deref, Dn.gName, Dn.gNil, Dn.gCons, Dn.gTup, Dn.gStar, R.bind_ok, R.bind_no, R.thenS_ok, R.thenS_no, RS.next_nx, RS.next_rt, RS.next_no, onG_ok, eFld, fget, fput, insOf, setF, eMeth, onIns, eBM, eBM0, tyD, mAppend, mPop, mExtend, mJoin, mFind, Dn.m0, Dn.m1, Dn.m2, eBox, eFrz, eMake, big, toD, kids, eqv_ss, eqv_ii, eqv_bb, eqv_tt, eqv_ll, eqv_ts, eqv_st, eqvL_nn, eqvL_nc, eqvL_cn, eqvL_cc, flatD, S_beq]
    | alone w =>
      have g1 : w ∈ W0 := g
      simp only [W0, List.mem_cons, List.not_mem_nil, or_false] at g1
      rcases g1 with rfl | rfl <;> simp [run, start, sSeq, sSet, sNil, sExpr, sRet, sRetN, sIf, sNo, sPut, Dn.sFld, Dn.sFldAdd, sAug, eVar, eC, Dn.e1, Dn.e2, aNil, aCons, eTup, eLst, eCall, tE, tBl, Dn.tNot, Dn.tAnd, Dn.tOr, Dn.tYes, eIf, eAnd, eOr, eNot, eChain, eB, on1, on2, bLen, fLen, bIsi, fIsi, tyOf, isT, bAll, fAll, bAny, fAny, bStr, fStr, bInt, fInt, bAbs, fAbs, bMin, fMin, bTuple, fTuple, bList, fList, opAdd, opSub, opMul, opDiv, opMod, opPow, opNeg, opItem, opSlice, eSlice, oNone, oSome, opAddI, cEq, cNe, cLt, cLe, cGt, cGe, cIn, keyD, truth, deref, Dn.gName, Dn.gNil, Dn.gCons, Dn.gTup, Dn.gStar, R.bind_ok, R.bind_no, R.thenS_ok, R.thenS_no, RS.next_nx, RS.next_rt, RS.next_no, onG_ok, eFld, fget, fput, insOf, setF, eMeth, onIns, eBM, eBM0, tyD, mAppend, mPop, mExtend, mJoin, mFind, Dn.m0, Dn.m1, Dn.m2, eBox, eFrz, eMake, big, toD, kids, eqv_ss, eqv_ii, eqv_bb, eqv_tt, eqv_ll, eqv_ts, eqv_st, eqvL_nn, eqvL_nc, eqvL_cn, eqvL_cc, flatD, S_beq]
  show trim h _ = _
  rw [x, trim_same]
noncomputable def A_is_worded : Fn := tr 1 (g_is_worded A_is_tuple)
theorem is_worded_eq (w : Tx) (r : List D) (z : r.length ≤ 10) (h : Hh) : A_is_worded [.tup (.str w :: r)] h = .ok (.bl true) h := by
  have x : run 1 (g_is_worded A_is_tuple) [.tup (.str w :: r)] h = .ok (.bl true) h := by
    unfold g_is_worded
    have t := is_tuple_eq (.str w :: r) 1 9999 h
    have y1 : (1 : Int) ≤ (((D.str w :: r).length : Nat) : Int) := by simp; omega
    have y2 : (((D.str w :: r).length : Nat) : Int) ≤ 9999 := by simp; omega
    simp only [y1, y2, decide_true, Bool.and_self] at t
    simp [run, start, sSeq, sSet, sNil, sExpr, sRet, sRetN, sIf, sNo, sPut, Dn.sFld, Dn.sFldAdd, sAug, eVar, eC, Dn.e1, Dn.e2, aNil, aCons, eTup, eLst, eCall, tE, tBl, Dn.tNot, Dn.tAnd, Dn.tOr, Dn.tYes, eIf, eAnd, eOr, eNot, eChain, eB, on1, on2, bLen, fLen, bIsi, fIsi, tyOf, isT, bAll, fAll, bAny, fAny, bStr, fStr, bInt, fInt, bAbs, fAbs, bMin, fMin, bTuple, fTuple, bList, fList, opAdd, opSub, opMul, opDiv, opMod, opPow, opNeg, opItem, opSlice, eSlice, oNone, oSome, opAddI, cEq, cNe, cLt, cLe, cGt, cGe, cIn, keyD, truth, deref, Dn.gName, Dn.gNil, Dn.gCons, Dn.gTup, Dn.gStar, R.bind_ok, R.bind_no, R.thenS_ok, R.thenS_no, RS.next_nx, RS.next_rt, RS.next_no, onG_ok, eFld, fget, fput, insOf, setF, eMeth, onIns, eBM, eBM0, tyD, mAppend, mPop, mExtend, mJoin, mFind, Dn.m0, Dn.m1, Dn.m2, eBox, eFrz, eMake, big, k_LAST_NUMBER, t, atIx, ixN]
  show trim h _ = _
  rw [x, trim_same]
theorem row_data {r : List D} (h : ∀ d ∈ r, isData 50 d = true) : isData 60 (.lst r) = true := by
  show areData 59 r = true
  exact areData_all.mpr fun d hd => isData_mono (by decide) d (h d hd)
theorem isData0 (s : Tx) : isData 60 (.str s) = true := rfl
theorem isDataN (i : Int) : isData 60 (.int i) = true := rfl
theorem isDataE : isData 60 (.lst []) = true := rfl
noncomputable def A_has_form : Fn := tr 3 (g_has_form A_is_worded A_is_whole A_is_text A_is_name A_parts_of)
theorem has_form_eq (e : Ex) (g : good e) (hd : dep e ≤ 50) (h : Hh) : A_has_form [toD e] h = .ok (.bl true) h := by
  have x : run 3 (g_has_form A_is_worded A_is_whole A_is_text A_is_name A_parts_of) [toD e] h = .ok (.bl true) h := by
    have p := parts_of_eq e g h
    unfold g_has_form
    cases e with
    | num n =>
      have y : (n : Int) ≤ 1000000000000 := by
        have : n ≤ 1000000000000 := g
        omega
      have w := is_worded_eq (S "number") [.int n] (by simp) h
      have c := is_whole_eq n 0 1000000000000 h
      have y0 : (0 : Int) ≤ (n : Int) := by omega
      simp only [y, y0, decide_true, Bool.and_self] at c
      simp [run, start, sSeq, sSet, sNil, sExpr, sRet, sRetN, sIf, sNo, sPut, Dn.sFld, Dn.sFldAdd, sAug, eVar, eC, Dn.e1, Dn.e2, aNil, aCons, eTup, eLst, eCall, tE, tBl, Dn.tNot, Dn.tAnd, Dn.tOr, Dn.tYes, eIf, eAnd, eOr, eNot, eChain, eB, on1, on2, bLen, fLen, bIsi, fIsi, tyOf, isT, bAll, fAll, bAny, fAny, bStr, fStr, bInt, fInt, bAbs, fAbs, bMin, fMin, bTuple, fTuple, bList, fList, opAdd, opSub, opMul, opDiv, opMod, opPow, opNeg, opItem, opSlice, eSlice, oNone, oSome, opAddI, cEq, cNe, cLt, cLe, cGt, cGe, cIn, keyD, truth, deref, Dn.gName, Dn.gNil, Dn.gCons, Dn.gTup, Dn.gStar, R.bind_ok, R.bind_no, R.thenS_ok, R.thenS_no, RS.next_nx, RS.next_rt, RS.next_no, onG_ok, eFld, fget, fput, insOf, setF, eMeth, onIns, eBM, eBM0, tyD, mAppend, mPop, mExtend, mJoin, mFind, Dn.m0, Dn.m1, Dn.m2, eBox, eFrz, eMake, big, toD, kids, eqv_ss, eqv_ii, eqv_bb, eqv_tt, eqv_ll, eqv_ts, eqv_st, eqvL_nn, eqvL_nc, eqvL_cn, eqvL_cc, flatD, S_beq, isData, areData, atIx, ixN, w, c, k_GREATEST]
    | txt t =>
      have w := is_worded_eq (S "text") [.str t] (by simp) h
      have c := is_text_eq t h
      rw [show textOk t = true from g] at c
      simp [run, start, sSeq, sSet, sNil, sExpr, sRet, sRetN, sIf, sNo, sPut, Dn.sFld, Dn.sFldAdd, sAug, eVar, eC, Dn.e1, Dn.e2, aNil, aCons, eTup, eLst, eCall, tE, tBl, Dn.tNot, Dn.tAnd, Dn.tOr, Dn.tYes, eIf, eAnd, eOr, eNot, eChain, eB, on1, on2, bLen, fLen, bIsi, fIsi, tyOf, isT, bAll, fAll, bAny, fAny, bStr, fStr, bInt, fInt, bAbs, fAbs, bMin, fMin, bTuple, fTuple, bList, fList, opAdd, opSub, opMul, opDiv, opMod, opPow, opNeg, opItem, opSlice, eSlice, oNone, oSome, opAddI, cEq, cNe, cLt, cLe, cGt, cGe, cIn, keyD, truth, deref, Dn.gName, Dn.gNil, Dn.gCons, Dn.gTup, Dn.gStar, R.bind_ok, R.bind_no, R.thenS_ok, R.thenS_no, RS.next_nx, RS.next_rt, RS.next_no, onG_ok, eFld, fget, fput, insOf, setF, eMeth, onIns, eBM, eBM0, tyD, mAppend, mPop, mExtend, mJoin, mFind, Dn.m0, Dn.m1, Dn.m2, eBox, eFrz, eMake, big, toD, kids, eqv_ss, eqv_ii, eqv_bb, eqv_tt, eqv_ll, eqv_ts, eqv_st, eqvL_nn, eqvL_nc, eqvL_cn, eqvL_cc, flatD, S_beq, isData, areData, atIx, ixN, w, c]
    | box t =>
      have w := is_worded_eq (S "box") [.str t] (by simp) h
      have c := is_name_eq t h (Nat.le_trans (nameOk_len g).2 (by decide))
      rw [show nameOk t = true from g] at c
      simp [run, start, sSeq, sSet, sNil, sExpr, sRet, sRetN, sIf, sNo, sPut, Dn.sFld, Dn.sFldAdd, sAug, eVar, eC, Dn.e1, Dn.e2, aNil, aCons, eTup, eLst, eCall, tE, tBl, Dn.tNot, Dn.tAnd, Dn.tOr, Dn.tYes, eIf, eAnd, eOr, eNot, eChain, eB, on1, on2, bLen, fLen, bIsi, fIsi, tyOf, isT, bAll, fAll, bAny, fAny, bStr, fStr, bInt, fInt, bAbs, fAbs, bMin, fMin, bTuple, fTuple, bList, fList, opAdd, opSub, opMul, opDiv, opMod, opPow, opNeg, opItem, opSlice, eSlice, oNone, oSome, opAddI, cEq, cNe, cLt, cLe, cGt, cGe, cIn, keyD, truth, deref, Dn.gName, Dn.gNil, Dn.gCons, Dn.gTup, Dn.gStar, R.bind_ok, R.bind_no, R.thenS_ok, R.thenS_no, RS.next_nx, RS.next_rt, RS.next_no, onG_ok, eFld, fget, fput, insOf, setF, eMeth, onIns, eBM, eBM0, tyD, mAppend, mPop, mExtend, mJoin, mFind, Dn.m0, Dn.m1, Dn.m2, eBox, eFrz, eMake, big, toD, kids, eqv_ss, eqv_ii, eqv_bb, eqv_tt, eqv_ll, eqv_ts, eqv_st, eqvL_nn, eqvL_nc, eqvL_cn, eqvL_cc, flatD, S_beq, isData, areData, atIx, ixN, w, c]
    | two op a b =>
      obtain ⟨_, _, c1, c2, c3, c4, c5, c6, _⟩ := op_facts g.1
      have w := is_worded_eq op [toD a, toD b] (by simp) h
      simp [run, start, sSeq, sSet, sNil, sExpr, sRet, sRetN, sIf, sNo, sPut, Dn.sFld, Dn.sFldAdd, sAug, eVar, eC, Dn.e1, Dn.e2, aNil, aCons, eTup, eLst, eCall, tE, tBl, Dn.tNot, Dn.tAnd, Dn.tOr, Dn.tYes, eIf, eAnd, eOr, eNot, eChain, eB, on1, on2, bLen, fLen, bIsi, fIsi, tyOf, isT, bAll, fAll, bAny, fAny, bStr, fStr, bInt, fInt, bAbs, fAbs, bMin, fMin, bTuple, fTuple, bList, fList, opAdd, opSub, opMul, opDiv, opMod, opPow, opNeg, opItem, opSlice, eSlice, oNone, oSome, opAddI, cNe, cLt, cLe, cGt, cGe, keyD, truth, deref, Dn.gName, Dn.gNil, Dn.gCons, Dn.gTup, Dn.gStar, R.bind_ok, R.bind_no, R.thenS_ok, R.thenS_no, RS.next_nx, RS.next_rt, RS.next_no, onG_ok, eFld, fget, fput, insOf, setF, eMeth, onIns, eBM, eBM0, tyD, mAppend, mPop, mExtend, mJoin, mFind, Dn.m0, Dn.m1, Dn.m2, eBox, eFrz, eMake, big, toD, w, c1, c2, c3, c4]
      simp [run, start, sSeq, sSet, sNil, sExpr, sRet, sRetN, sIf, sNo, sPut, Dn.sFld, Dn.sFldAdd, sAug, eVar, eC, Dn.e1, Dn.e2, aNil, aCons, eTup, eLst, eCall, tE, tBl, Dn.tNot, Dn.tAnd, Dn.tOr, Dn.tYes, eIf, eAnd, eOr, eNot, eChain, eB, on1, on2, bLen, fLen, bIsi, fIsi, tyOf, isT, bAll, fAll, bAny, fAny, bStr, fStr, bInt, fInt, bAbs, fAbs, bMin, fMin, bTuple, fTuple, bList, fList, opAdd, opSub, opMul, opDiv, opMod, opPow, opNeg, opItem, opSlice, eSlice, oNone, oSome, opAddI, cEq, cNe, cLt, cLe, cGt, cGe, cIn, keyD, truth, deref, Dn.gName, Dn.gNil, Dn.gCons, Dn.gTup, Dn.gStar, R.bind_ok, R.bind_no, R.thenS_ok, R.thenS_no, RS.next_nx, RS.next_rt, RS.next_no, onG_ok, eFld, fget, fput, insOf, setF, eMeth, onIns, eBM, eBM0, tyD, mAppend, mPop, mExtend, mJoin, mFind, Dn.m0, Dn.m1, Dn.m2, eBox, eFrz, eMake, big, isData, eqv_ss, eqv_ii, eqv_bb, eqv_tt, eqv_ll, eqv_ts, eqv_st, eqvL_nn, eqvL_nc, eqvL_cn, eqvL_cc]
    | cell n a =>
      have w := is_worded_eq (S "cell") [.str n, toD a] (by simp) h
      have c := is_name_eq n h (Nat.le_trans (nameOk_len g.1).2 (by decide))
      rw [g.1] at c
      simp only [toD, kids, List.map_cons, List.map_nil] at p
      have q := row_data (r := [.str n, toD a]) (by simp [isData, data_toD a 50 (by simp only [dep] at hd; omega)])
      simp [run, start, sSeq, sSet, sNil, sExpr, sRet, sRetN, sIf, sNo, sPut, Dn.sFld, Dn.sFldAdd, sAug, eVar, eC, Dn.e1, Dn.e2, aNil, aCons, eTup, eLst, eCall, tE, tBl, Dn.tNot, Dn.tAnd, Dn.tOr, Dn.tYes, eIf, eAnd, eOr, eNot, eChain, eB, on1, on2, bLen, fLen, bIsi, fIsi, tyOf, isT, bAll, fAll, bAny, fAny, bStr, fStr, bInt, fInt, bAbs, fAbs, bMin, fMin, bTuple, fTuple, bList, fList, opAdd, opSub, opMul, opDiv, opMod, opPow, opNeg, opItem, opSlice, eSlice, oNone, oSome, opAddI, cEq, cNe, cLt, cLe, cGt, cGe, cIn, keyD, truth, deref, Dn.gName, Dn.gNil, Dn.gCons, Dn.gTup, Dn.gStar, R.bind_ok, R.bind_no, R.thenS_ok, R.thenS_no, RS.next_nx, RS.next_rt, RS.next_no, onG_ok, eFld, fget, fput, insOf, setF, eMeth, onIns, eBM, eBM0, tyD, mAppend, mPop, mExtend, mJoin, mFind, Dn.m0, Dn.m1, Dn.m2, eBox, eFrz, eMake, big, toD, eqv_ss, eqv_ii, eqv_bb, eqv_tt, eqv_ll, eqv_ts, eqv_st, eqvL_nn, eqvL_nc, eqvL_cn, eqvL_cc, flatD, S_beq, isData0, isDataN, isDataE, atIx, ixN, w, c, p, q, k_WITHIN, k_SIGNS_words, dget, S_inj]
    | fit n a =>
      have w := is_worded_eq (S "fit") [.str n, toD a] (by simp) h
      have c := is_name_eq n h (Nat.le_trans (nameOk_len g.1).2 (by decide))
      rw [g.1] at c
      simp only [toD, kids, List.map_cons, List.map_nil] at p
      have q := row_data (r := [.str n, toD a]) (by simp [isData, data_toD a 50 (by simp only [dep] at hd; omega)])
      simp [run, start, sSeq, sSet, sNil, sExpr, sRet, sRetN, sIf, sNo, sPut, Dn.sFld, Dn.sFldAdd, sAug, eVar, eC, Dn.e1, Dn.e2, aNil, aCons, eTup, eLst, eCall, tE, tBl, Dn.tNot, Dn.tAnd, Dn.tOr, Dn.tYes, eIf, eAnd, eOr, eNot, eChain, eB, on1, on2, bLen, fLen, bIsi, fIsi, tyOf, isT, bAll, fAll, bAny, fAny, bStr, fStr, bInt, fInt, bAbs, fAbs, bMin, fMin, bTuple, fTuple, bList, fList, opAdd, opSub, opMul, opDiv, opMod, opPow, opNeg, opItem, opSlice, eSlice, oNone, oSome, opAddI, cEq, cNe, cLt, cLe, cGt, cGe, cIn, keyD, truth, deref, Dn.gName, Dn.gNil, Dn.gCons, Dn.gTup, Dn.gStar, R.bind_ok, R.bind_no, R.thenS_ok, R.thenS_no, RS.next_nx, RS.next_rt, RS.next_no, onG_ok, eFld, fget, fput, insOf, setF, eMeth, onIns, eBM, eBM0, tyD, mAppend, mPop, mExtend, mJoin, mFind, Dn.m0, Dn.m1, Dn.m2, eBox, eFrz, eMake, big, toD, eqv_ss, eqv_ii, eqv_bb, eqv_tt, eqv_ll, eqv_ts, eqv_st, eqvL_nn, eqvL_nc, eqvL_cn, eqvL_cc, flatD, S_beq, isData0, isDataN, isDataE, atIx, ixN, w, c, p, q, k_WITHIN, k_SIGNS_words, dget, S_inj]
    | one w a =>
      have g1 := g.1
      simp only [W1, List.mem_cons, List.not_mem_nil, or_false] at g1
      simp only [toD, kids, List.map_cons, List.map_nil] at p
      have ww := is_worded_eq w [toD a] (by simp) h
      rcases g1 with rfl | rfl <;> simp [run, start, sSeq, sSet, sNil, sExpr, sRet, sRetN, sIf, sNo, sPut, Dn.sFld, Dn.sFldAdd, sAug, eVar, eC, Dn.e1, Dn.e2, aNil, aCons, eTup, eLst, eCall, tE, tBl, Dn.tNot, Dn.tAnd, Dn.tOr, Dn.tYes, eIf, eAnd, eOr, eNot, eChain, eB, on1, on2, bLen, fLen, bIsi, fIsi, tyOf, isT, bAll, fAll, bAny, fAny, bStr, fStr, bInt, fInt, bAbs, fAbs, bMin, fMin, bTuple, fTuple, bList, fList, opAdd, opSub, opMul, opDiv, opMod, opPow, opNeg, opItem, opSlice, eSlice, oNone, oSome, opAddI, cEq, cNe, cLt, cLe, cGt, cGe, cIn, keyD, truth, deref, Dn.gName, Dn.gNil, Dn.gCons, Dn.gTup, Dn.gStar, R.bind_ok, R.bind_no, R.thenS_ok, R.thenS_no, RS.next_nx, RS.next_rt, RS.next_no, onG_ok, eFld, fget, fput, insOf, setF, eMeth, onIns, eBM, eBM0, tyD, mAppend, mPop, mExtend, mJoin, mFind, Dn.m0, Dn.m1, Dn.m2, eBox, eFrz, eMake, big, toD, eqv_ss, eqv_ii, eqv_bb, eqv_tt, eqv_ll, eqv_ts, eqv_st, eqvL_nn, eqvL_nc, eqvL_cn, eqvL_cc, flatD, S_beq, isData0, isDataN, isDataE, ww, p, k_WITHIN, k_SIGNS_words, dget, S_inj]
    | part a b c =>
      have ww := is_worded_eq (S "part") [toD a, toD b, toD c] (by simp) h
      simp only [toD, kids, List.map_cons, List.map_nil] at p
      simp [run, start, sSeq, sSet, sNil, sExpr, sRet, sRetN, sIf, sNo, sPut, Dn.sFld, Dn.sFldAdd, sAug, eVar, eC, Dn.e1, Dn.e2, aNil, aCons, eTup, eLst, eCall, tE, tBl, Dn.tNot, Dn.tAnd, Dn.tOr, Dn.tYes, eIf, eAnd, eOr, eNot, eChain, eB, on1, on2, bLen, fLen, bIsi, fIsi, tyOf, isT, bAll, fAll, bAny, fAny, bStr, fStr, bInt, fInt, bAbs, fAbs, bMin, fMin, bTuple, fTuple, bList, fList, opAdd, opSub, opMul, opDiv, opMod, opPow, opNeg, opItem, opSlice, eSlice, oNone, oSome, opAddI, cEq, cNe, cLt, cLe, cGt, cGe, cIn, keyD, truth, deref, Dn.gName, Dn.gNil, Dn.gCons, Dn.gTup, Dn.gStar, R.bind_ok, R.bind_no, R.thenS_ok, R.thenS_no, RS.next_nx, RS.next_rt, RS.next_no, onG_ok, eFld, fget, fput, insOf, setF, eMeth, onIns, eBM, eBM0, tyD, mAppend, mPop, mExtend, mJoin, mFind, Dn.m0, Dn.m1, Dn.m2, eBox, eFrz, eMake, big, toD, eqv_ss, eqv_ii, eqv_bb, eqv_tt, eqv_ll, eqv_ts, eqv_st, eqvL_nn, eqvL_nc, eqvL_cn, eqvL_cc, flatD, S_beq, isData0, isDataN, isDataE, ww, p, k_WITHIN, k_SIGNS_words, dget, S_inj]
    | alone w =>
      have g1 : w ∈ W0 := g
      simp only [W0, List.mem_cons, List.not_mem_nil, or_false] at g1
      simp only [toD, kids, List.map_cons, List.map_nil] at p
      have ww := is_worded_eq w [] (by simp) h
      rcases g1 with rfl | rfl <;> simp [run, start, sSeq, sSet, sNil, sExpr, sRet, sRetN, sIf, sNo, sPut, Dn.sFld, Dn.sFldAdd, sAug, eVar, eC, Dn.e1, Dn.e2, aNil, aCons, eTup, eLst, eCall, tE, tBl, Dn.tNot, Dn.tAnd, Dn.tOr, Dn.tYes, eIf, eAnd, eOr, eNot, eChain, eB, on1, on2, bLen, fLen, bIsi, fIsi, tyOf, isT, bAll, fAll, bAny, fAny, bStr, fStr, bInt, fInt, bAbs, fAbs, bMin, fMin, bTuple, fTuple, bList, fList, opAdd, opSub, opMul, opDiv, opMod, opPow, opNeg, opItem, opSlice, eSlice, oNone, oSome, opAddI, cEq, cNe, cLt, cLe, cGt, cGe, cIn, keyD, truth, deref, Dn.gName, Dn.gNil, Dn.gCons, Dn.gTup, Dn.gStar, R.bind_ok, R.bind_no, R.thenS_ok, R.thenS_no, RS.next_nx, RS.next_rt, RS.next_no, onG_ok, eFld, fget, fput, insOf, setF, eMeth, onIns, eBM, eBM0, tyD, mAppend, mPop, mExtend, mJoin, mFind, Dn.m0, Dn.m1, Dn.m2, eBox, eFrz, eMake, big, toD, eqv_ss, eqv_ii, eqv_bb, eqv_tt, eqv_ll, eqv_ts, eqv_st, eqvL_nn, eqvL_nc, eqvL_cn, eqvL_cc, flatD, S_beq, isData0, isDataN, isDataE, ww, p, k_WITHIN, k_SIGNS_words, dget, S_inj]
  show trim h _ = _
  rw [x, trim_same]
end Dk75

/-! text Dk75d -/
set_option maxHeartbeats 1000000
set_option Elab.async false
set_option linter.all false
set_option maxRecDepth 100000
set_option autoImplicit false
set_option maxHeartbeats 4000000
/-! k75: is_expression. -/
namespace Dk75
open Dn
def pr (p : Ex × Nat) : D := .tup [toD p.1, .int p.2]
/-- the list that stands for a stack, its top last -/
def lay (s : List (Ex × Nat)) : List D := s.reverse.map pr
def push (e : Ex) (d : Nat) : List (Ex × Nat) := (kids e).reverse.map fun k => (k, d + 1)
/-- what the loop finds; n: how many may still come -/
def chk : Nat → List (Ex × Nat) → Bool
  | _, [] => true
  | 0, _ :: _ => false
  | n + 1, (e, d) :: r => if 8 < d then false else chk n (push e d ++ r)
theorem lay_cons (p : Ex × Nat) (s : List (Ex × Nat)) : lay (p :: s) = lay s ++ [pr p] := by simp [lay]
theorem lay_push (e : Ex) (d : Nat) (s : List (Ex × Nat)) : lay (push e d ++ s) = lay s ++ (kids e).map (fun k => pr (k, d + 1)) := by
  simp [lay, push, List.map_reverse]
theorem lay_len (s : List (Ex × Nat)) : (lay s).length = s.length := by simp [lay]
theorem kids_len (e : Ex) : (kids e).length ≤ 3 := by cases e <;> simp [kids]
theorem lay_data {s : List (Ex × Nat)} (h : ∀ p ∈ s, dep p.1 ≤ 50) : isData 60 (.lst (lay s)) = true := by
  show areData 59 (lay s) = true
  refine areData_all.mpr fun d hd => ?_
  obtain ⟨p, hp, rfl⟩ := List.mem_map.mp hd
  have := data_toD p.1 58 (Nat.le_trans (h p (List.mem_reverse.mp hp)) (by decide))
  show areData 58 [toD p.1, .int p.2] = true
  simp [areData, this, isData]
def cond : DT := tBl (e2 cNe (eVar 1) (eLst aNil))
noncomputable def body : DS :=
  (sSeq (sSet (eBM0 "list" mPop (eVar 1)) (Dn.gTup 2 (Dn.gCons (Dn.gName 3) (Dn.gCons (Dn.gName 4) Dn.gNil))))
  (sSeq (sAug 2 opAddI (eC (.int 1)))
  (sSeq (sIf (Dn.tOr (tBl (e2 cGt (eVar 4) (eC k_DEEPEST))) (Dn.tOr (tBl (e2 cGt (eVar 2) (eC k_MOST_EXPRESSIONS))) (Dn.tNot (tE (eCall 1 A_has_form [] (aCons (eVar 3) aNil))))))
  (sRet (eC (.bl false)))
  sNil)
  (sExpr (eBM "list" mExtend (eVar 1) (aCons (eComp (iE itL (eCall 1 A_parts_of [] (aCons (eVar 3) aNil))) (Dn.gName 5) Dn.tYes (eTup (aCons (eVar 5) (aCons (e2 opAdd (eVar 4) (eC (.int 1))) aNil))) [5]) aNil))))))
abbrev st (x : D) (n : Nat) (many : Nat) (o3 o4 : Option D) : Dn.Env := [some x, some (.loc n), some (.int many), o3, o4, none]
theorem at_last (h : Hh) (o : Option O) : (h ++ [o])[h.length]? = some o := by
  rw [List.getElem?_append_right (Nat.le_refl _)]
  simp
theorem set_last (h : Hh) (o u : Option O) : (h ++ [o]).set h.length u = h ++ [u] := by
  rw [List.set_append_right _ _ (Nat.le_refl _)]
  simp
theorem fPop_at (h : Hh) (xs : List D) (y : D) : fPop (.loc h.length) (h ++ [some (.lst (xs ++ [y]))]) = .ok y (h ++ [some (.lst xs)]) := by
  unfold fPop
  simp only [at_last]
  have e : (xs ++ [y])[(xs ++ [y]).length - 1]? = some y := by simp
  simp only [e, set_last, List.dropLast_concat]
theorem fExtend_at (h : Hh) (xs es : List D) (z : xs.length + es.length ≤ big) : fExtend (.loc h.length) (.lst es) (h ++ [some (.lst xs)]) = .ok .non (h ++ [some (.lst (xs ++ es))]) := by
  unfold fExtend
  simp only [at_last, if_pos z, set_last]
theorem fAppend_at (h : Hh) (xs : List D) (e : D) (z : xs.length < big) : fAppend (.loc h.length) e (h ++ [some (.lst xs)]) = .ok .non (h ++ [some (.lst (xs ++ [e]))]) := by
  unfold fAppend
  simp only [at_last, if_pos z, set_last]
theorem cond_eq (h : Hh) (x : D) (many : Nat) (o3 o4 : Option D) (s : List (Ex × Nat)) (hs : ∀ p ∈ s, dep p.1 ≤ 50) : cond (st x h.length many o3 o4) (h ++ [some (.lst (lay s))]) = .ok (!s.isEmpty) (h ++ [some (.lst (lay s))]) := by
  have q := lay_data hs
  have a := at_last h (some (.lst (lay s)))
  unfold cond
  have e : eqv (.lst (lay s)) (.lst []) = s.isEmpty := by
    cases s with
    | nil => rfl
    | cons p s =>
      have : lay (p :: s) ≠ [] := by simp [lay]
      rw [eqv_ll]
      cases e : lay (p :: s) with
      | nil => exact absurd e this
      | cons y ys => rfl
  simp [run, start, sSeq, sSet, sNil, sExpr, sRet, sRetN, sIf, sNo, sPut, Dn.sFld, Dn.sFldAdd, sAug, eVar, eC, Dn.e1, Dn.e2, aNil, aCons, eTup, eLst, eCall, tE, tBl, Dn.tNot, Dn.tAnd, Dn.tOr, Dn.tYes, eIf, eAnd, eOr, eNot, eChain, eB, on1, on2, bLen, fLen, bIsi, fIsi, tyOf, isT, bAll, fAll, bAny, fAny, bStr, fStr, bInt, fInt, bAbs, fAbs, bMin, fMin, bTuple, fTuple, bList, fList, opAdd, opSub, opMul, opDiv, opMod, opPow, opNeg, opItem, opSlice, eSlice, oNone, oSome, opAddI, cEq, cNe, cLt, cLe, cGt, cGe, cIn, keyD, truth, deref, Dn.gName, Dn.gNil, Dn.gCons, Dn.gTup, Dn.gStar, R.bind_ok, R.bind_no, R.thenS_ok, R.thenS_no, RS.next_nx, RS.next_rt, RS.next_no, onG_ok, eFld, fget, fput, insOf, setF, eMeth, onIns, eBM, eBM0, tyD, mAppend, mPop, mExtend, mJoin, mFind, Dn.m0, Dn.m1, Dn.m2, eBox, eFrz, eMake, big, st, a, q, isDataE, e]
theorem body_eq (h : Hh) (x : D) (many : Nat) (o3 o4 : Option D) (e : Ex) (d : Nat) (s : List (Ex × Nat)) (g : good e) (hd : dep e ≤ 50) (hz : s.length ≤ 1000) :
    body (st x h.length many o3 o4) (h ++ [some (.lst (lay ((e, d) :: s)))]) = if 8 < d ∨ 40 < many + 1 then .rt (.bl false) (h ++ [some (.lst (lay s))]) else .nx (st x h.length (many + 1) (some (toD e)) (some (.int d))) (h ++ [some (.lst (lay (push e d ++ s)))]) := by
  have hf := has_form_eq e g hd (h ++ [some (.lst (lay s))])
  have c := comp_map (kids e) toD (fun k => some (pr (k, d + 1))) (it := iE itL (eCall 1 A_parts_of [] (aCons (eVar 3) aNil))) (g := Dn.gName 5) (t := Dn.tYes) (a := eTup (aCons (eVar 5) (aCons (e2 opAdd (eVar 4) (eC (.int 1))) aNil))) (vs := [5])
    (env := st x h.length (many + 1) (some (toD e)) (some (.int d))) (h := h ++ [some (.lst (lay s))]) (h1 := h ++ [some (.lst (lay s))])
    (by simp [iE, itL, run, start, sSeq, sSet, sNil, sExpr, sRet, sRetN, sIf, sNo, sPut, Dn.sFld, Dn.sFldAdd, sAug, eVar, eC, Dn.e1, Dn.e2, aNil, aCons, eTup, eLst, eCall, tE, tBl, Dn.tNot, Dn.tAnd, Dn.tOr, Dn.tYes, eIf, eAnd, eOr, eNot, eChain, eB, on1, on2, bLen, fLen, bIsi, fIsi, tyOf, isT, bAll, fAll, bAny, fAny, bStr, fStr, bInt, fInt, bAbs, fAbs, bMin, fMin, bTuple, fTuple, bList, fList, opAdd, opSub, opMul, opDiv, opMod, opPow, opNeg, opItem, opSlice, eSlice, oNone, oSome, opAddI, cEq, cNe, cLt, cLe, cGt, cGe, cIn, keyD, truth, deref, Dn.gName, Dn.gNil, Dn.gCons, Dn.gTup, Dn.gStar, R.bind_ok, R.bind_no, R.thenS_ok, R.thenS_no, RS.next_nx, RS.next_rt, RS.next_no, onG_ok, eFld, fget, fput, insOf, setF, eMeth, onIns, eBM, eBM0, tyD, mAppend, mPop, mExtend, mJoin, mFind, Dn.m0, Dn.m1, Dn.m2, eBox, eFrz, eMake, big, st, parts_of_eq e g]) (fun k hk acc => by simp [turnC, run, start, sSeq, sSet, sNil, sExpr, sRet, sRetN, sIf, sNo, sPut, Dn.sFld, Dn.sFldAdd, sAug, eVar, eC, Dn.e1, Dn.e2, aNil, aCons, eTup, eLst, eCall, tE, tBl, Dn.tNot, Dn.tAnd, Dn.tOr, Dn.tYes, eIf, eAnd, eOr, eNot, eChain, eB, on1, on2, bLen, fLen, bIsi, fIsi, tyOf, isT, bAll, fAll, bAny, fAny, bStr, fStr, bInt, fInt, bAbs, fAbs, bMin, fMin, bTuple, fTuple, bList, fList, opAdd, opSub, opMul, opDiv, opMod, opPow, opNeg, opItem, opSlice, eSlice, oNone, oSome, opAddI, cEq, cNe, cLt, cLe, cGt, cGe, cIn, keyD, truth, deref, Dn.gName, Dn.gNil, Dn.gCons, Dn.gTup, Dn.gStar, R.bind_ok, R.bind_no, R.thenS_ok, R.thenS_no, RS.next_nx, RS.next_rt, RS.next_no, onG_ok, eFld, fget, fput, insOf, setF, eMeth, onIns, eBM, eBM0, tyD, mAppend, mPop, mExtend, mJoin, mFind, Dn.m0, Dn.m1, Dn.m2, eBox, eFrz, eMake, big, st, wipe, pr]) (by
      rw [filterMap_some]
      refine areData_below (n := 60) _ _ (areData_all.mpr fun y hy => ?_)
      obtain ⟨k, hk, rfl⟩ := List.mem_map.mp hy
      have := data_toD k 58 (by have := dep_kids hk; omega)
      show areData 59 [toD k, .int _] = true
      simp [areData, isData_mono (m := 59) (by decide) _ this, isData]) (Nat.le_trans (kids_len e) (by decide))
  rw [filterMap_some] at c
  have kl := kids_len e
  have ll := lay_len s
  have z3 : (lay s).length + (List.map (fun k => pr (k, d + 1)) (kids e)).length ≤ 16777216 := by
    rw [List.length_map]
    omega
  have fx := fExtend_at h (lay s) (List.map (fun k => pr (k, d + 1)) (kids e)) z3
  unfold body
  rw [lay_cons, lay_push]
  by_cases h1 : 8 < d
  · have y1 : (8 : Int) < (d : Int) := by omega
    simp [run, start, sSeq, sSet, sNil, sExpr, sRet, sRetN, sIf, sNo, sPut, Dn.sFld, Dn.sFldAdd, sAug, eVar, eC, Dn.e1, Dn.e2, aNil, aCons, eTup, eLst, eCall, tE, tBl, Dn.tNot, Dn.tAnd, Dn.tOr, Dn.tYes, eIf, eAnd, eOr, eNot, eChain, eB, on1, on2, bLen, fLen, bIsi, fIsi, tyOf, isT, bAll, fAll, bAny, fAny, bStr, fStr, bInt, fInt, bAbs, fAbs, bMin, fMin, bTuple, fTuple, bList, fList, opAdd, opSub, opMul, opDiv, opMod, opPow, opNeg, opItem, opSlice, eSlice, oNone, oSome, opAddI, cEq, cNe, cLt, cLe, cGt, cGe, cIn, keyD, truth, deref, Dn.gName, Dn.gNil, Dn.gCons, Dn.gTup, Dn.gStar, R.bind_ok, R.bind_no, R.thenS_ok, R.thenS_no, RS.next_nx, RS.next_rt, RS.next_no, onG_ok, eFld, fget, fput, insOf, setF, eMeth, onIns, eBM, eBM0, tyD, mAppend, mPop, mExtend, mJoin, mFind, Dn.m0, Dn.m1, Dn.m2, eBox, eFrz, eMake, big, st, at_last, fPop_at, k_DEEPEST, k_MOST_EXPRESSIONS, pr, h1, y1]
  · have y1 : ¬ (8 : Int) < (d : Int) := by omega
    by_cases h2 : 40 < many + 1
    · have y2 : (40 : Int) < (many : Int) + 1 := by omega
      simp [run, start, sSeq, sSet, sNil, sExpr, sRet, sRetN, sIf, sNo, sPut, Dn.sFld, Dn.sFldAdd, sAug, eVar, eC, Dn.e1, Dn.e2, aNil, aCons, eTup, eLst, eCall, tE, tBl, Dn.tNot, Dn.tAnd, Dn.tOr, Dn.tYes, eIf, eAnd, eOr, eNot, eChain, eB, on1, on2, bLen, fLen, bIsi, fIsi, tyOf, isT, bAll, fAll, bAny, fAny, bStr, fStr, bInt, fInt, bAbs, fAbs, bMin, fMin, bTuple, fTuple, bList, fList, opAdd, opSub, opMul, opDiv, opMod, opPow, opNeg, opItem, opSlice, eSlice, oNone, oSome, opAddI, cEq, cNe, cLt, cLe, cGt, cGe, cIn, keyD, truth, deref, Dn.gName, Dn.gNil, Dn.gCons, Dn.gTup, Dn.gStar, R.bind_ok, R.bind_no, R.thenS_ok, R.thenS_no, RS.next_nx, RS.next_rt, RS.next_no, onG_ok, eFld, fget, fput, insOf, setF, eMeth, onIns, eBM, eBM0, tyD, mAppend, mPop, mExtend, mJoin, mFind, Dn.m0, Dn.m1, Dn.m2, eBox, eFrz, eMake, big, st, at_last, fPop_at, k_DEEPEST, k_MOST_EXPRESSIONS, pr, h1, y1, y2, h2]
    · have y2 : ¬ (40 : Int) < (many : Int) + 1 := by omega
      have c' := c
      simp only [st, pr] at c'
      simp only [pr] at fx
      push_cast at c' fx
      simp [run, start, sSeq, sSet, sNil, sExpr, sRet, sRetN, sIf, sNo, sPut, Dn.sFld, Dn.sFldAdd, sAug, eVar, eC, Dn.e1, Dn.e2, aNil, aCons, eTup, eLst, eCall, tE, tBl, Dn.tNot, Dn.tAnd, Dn.tOr, Dn.tYes, eIf, eAnd, eOr, eNot, eChain, eB, on1, on2, bLen, fLen, bIsi, fIsi, tyOf, isT, bAll, fAll, bAny, fAny, bStr, fStr, bInt, fInt, bAbs, fAbs, bMin, fMin, bTuple, fTuple, bList, fList, opAdd, opSub, opMul, opDiv, opMod, opPow, opNeg, opItem, opSlice, eSlice, oNone, oSome, opAddI, cEq, cNe, cLt, cLe, cGt, cGe, cIn, keyD, truth, deref, Dn.gName, Dn.gNil, Dn.gCons, Dn.gTup, Dn.gStar, R.bind_ok, R.bind_no, R.thenS_ok, R.thenS_no, RS.next_nx, RS.next_rt, RS.next_no, onG_ok, eFld, fget, fput, insOf, setF, eMeth, onIns, eBM, eBM0, tyD, mAppend, mPop, mExtend, mJoin, mFind, Dn.m0, Dn.m1, Dn.m2, eBox, eFrz, eMake, big, st, at_last, fPop_at, k_DEEPEST, k_MOST_EXPRESSIONS, pr, h1, y1, y2, h2, hf, c', fx]
theorem loop_eq (h : Hh) (x : D) : ∀ (n m many : Nat) (o3 o4 : Option D) (s : List (Ex × Nat)), many + n = 40 → (∀ p ∈ s, good p.1 ∧ dep p.1 ≤ 50) → s.length + 3 * n ≤ 200 →
    (chk n s = true ∧ ∃ env, whileN cond body (n + 1 + m) (st x h.length many o3 o4) (h ++ [some (.lst (lay s))]) = .nx env (h ++ [some (.lst [])])) ∨
    (chk n s = false ∧ ∃ L, whileN cond body (n + 1 + m) (st x h.length many o3 o4) (h ++ [some (.lst (lay s))]) = .rt (.bl false) (h ++ [some (.lst L)]))
  | n, m, many, o3, o4, [], _, _, _ => by
    refine .inl ⟨by cases n <;> rfl, st x h.length many o3 o4, ?_⟩
    rw [show n + 1 + m = (n + m) + 1 by omega, whileN_step, cond_eq h x many o3 o4 [] (by simp)]
    rfl
  | 0, m, many, o3, o4, (e, d) :: s, hm, hs, hz => by
    obtain ⟨g, hd⟩ := hs (e, d) (List.mem_cons_self)
    have hd : dep e ≤ 50 := hd
    refine .inr ⟨rfl, lay s, ?_⟩
    rw [show 0 + 1 + m = m + 1 by omega, whileN_step, cond_eq h x many o3 o4 _ (fun p hp => (hs p hp).2), R.thenS_ok, if_pos (show (!((e, d) :: s).isEmpty) = true from rfl), body_eq h x many o3 o4 e d s g hd (by simp at hz; omega), if_pos (.inr (by omega))]
  | n + 1, m, many, o3, o4, (e, d) :: s, hm, hs, hz => by
    obtain ⟨g, hd⟩ := hs (e, d) (List.mem_cons_self)
    have hd : dep e ≤ 50 := hd
    rw [show n + 1 + 1 + m = (n + 1 + m) + 1 by omega, whileN_step, cond_eq h x many o3 o4 _ (fun p hp => (hs p hp).2), R.thenS_ok, if_pos (show (!((e, d) :: s).isEmpty) = true from rfl), body_eq h x many o3 o4 e d s g hd (by simp at hz; omega)]
    by_cases h1 : 8 < d
    · refine .inr ⟨by simp [chk, h1], lay s, ?_⟩
      rw [if_pos (.inl h1)]
    · rw [if_neg (by omega)]
      have kl := kids_len e
      have go := loop_eq h x n m (many + 1) (some (toD e)) (some (.int d)) (push e d ++ s) (by omega) (fun p hp => by
        rcases List.mem_append.mp hp with hp | hp
        · obtain ⟨k, hk, rfl⟩ := List.mem_map.mp hp
          have hk2 := List.mem_reverse.mp hk
          have := dep_kids hk2
          exact ⟨good_kids g hk2, by simp; omega⟩
        · exact hs p (List.mem_cons_of_mem _ hp)) (by simp [push] at hz ⊢; omega)
      have ec : chk (n + 1) ((e, d) :: s) = chk n (push e d ++ s) := by simp [chk, h1]
      rw [ec]
      exact go
noncomputable def A_is_expression : Fn := tr 6 (g_is_expression A_has_form A_parts_of)
def legal (e : Ex) : Bool := chk 40 [(e, 1)]
theorem is_expression_eq (e : Ex) (g : good e) (hd : dep e ≤ 50) (h : Hh) : A_is_expression [toD e] h = .ok (.bl (legal e)) h := by
  have w := loop_eq h (toD e) 40 (lots - 41) 0 none none [(e, 1)] rfl (fun p hp => by rw [List.mem_singleton.mp hp]; exact ⟨g, hd⟩) (by simp)
  rw [show 40 + 1 + (lots - 41) = lots by decide] at w
  have l1 : lay [(e, 1)] = [.tup [toD e, .int 1]] := rfl
  rw [l1] at w
  have key : ∃ L, run 6 (g_is_expression A_has_form A_parts_of) [toD e] h = .ok (.bl (legal e)) (h ++ [some (.lst L)]) := by
    have u : g_is_expression A_has_form A_parts_of = sSeq (sSet (eBox (eLst (aCons (eTup (aCons (eVar 0) (aCons (eC (.int 1)) aNil))) aNil))) (Dn.gName 1)) (sSeq (sSet (eC (.int 0)) (Dn.gName 2)) (sSeq (sWhile lots cond body) (sRet (eC (.bl true))))) := rfl
    rw [u]
    rcases w with ⟨c, env, w⟩ | ⟨c, L, w⟩
    · refine ⟨[], ?_⟩
      simp only [st] at w
      push_cast at w
      simp [run, start, sSeq, sSet, sNil, sExpr, sRet, sRetN, sIf, sNo, sPut, Dn.sFld, Dn.sFldAdd, sAug, eVar, eC, Dn.e1, Dn.e2, aNil, aCons, eTup, eLst, eCall, tE, tBl, Dn.tNot, Dn.tAnd, Dn.tOr, Dn.tYes, eIf, eAnd, eOr, eNot, eChain, eB, on1, on2, bLen, fLen, bIsi, fIsi, tyOf, isT, bAll, fAll, bAny, fAny, bStr, fStr, bInt, fInt, bAbs, fAbs, bMin, fMin, bTuple, fTuple, bList, fList, opAdd, opSub, opMul, opDiv, opMod, opPow, opNeg, opItem, opSlice, eSlice, oNone, oSome, opAddI, cEq, cNe, cLt, cLe, cGt, cGe, cIn, keyD, truth, deref, Dn.gName, Dn.gNil, Dn.gCons, Dn.gTup, Dn.gStar, R.bind_ok, R.bind_no, R.thenS_ok, R.thenS_no, RS.next_nx, RS.next_rt, RS.next_no, onG_ok, eFld, fget, fput, insOf, setF, eMeth, onIns, eBM, eBM0, tyD, mAppend, mPop, mExtend, mJoin, mFind, Dn.m0, Dn.m1, Dn.m2, eBox, eFrz, eMake, big, sWhile, w]
      exact c
    · refine ⟨L, ?_⟩
      simp only [st] at w
      push_cast at w
      simp [run, start, sSeq, sSet, sNil, sExpr, sRet, sRetN, sIf, sNo, sPut, Dn.sFld, Dn.sFldAdd, sAug, eVar, eC, Dn.e1, Dn.e2, aNil, aCons, eTup, eLst, eCall, tE, tBl, Dn.tNot, Dn.tAnd, Dn.tOr, Dn.tYes, eIf, eAnd, eOr, eNot, eChain, eB, on1, on2, bLen, fLen, bIsi, fIsi, tyOf, isT, bAll, fAll, bAny, fAny, bStr, fStr, bInt, fInt, bAbs, fAbs, bMin, fMin, bTuple, fTuple, bList, fList, opAdd, opSub, opMul, opDiv, opMod, opPow, opNeg, opItem, opSlice, eSlice, oNone, oSome, opAddI, cEq, cNe, cLt, cLe, cGt, cGe, cIn, keyD, truth, deref, Dn.gName, Dn.gNil, Dn.gCons, Dn.gTup, Dn.gStar, R.bind_ok, R.bind_no, R.thenS_ok, R.thenS_no, RS.next_nx, RS.next_rt, RS.next_no, onG_ok, eFld, fget, fput, insOf, setF, eMeth, onIns, eBM, eBM0, tyD, mAppend, mPop, mExtend, mJoin, mFind, Dn.m0, Dn.m1, Dn.m2, eBox, eFrz, eMake, big, sWhile, w]
      exact c
  obtain ⟨L, k⟩ := key
  show trim h _ = _
  rw [k, trim_app rfl]
theorem chk_dep : ∀ (n : Nat) (s : List (Ex × Nat)), chk n s = true → ∀ p ∈ s, dep p.1 + p.2 ≤ 9
  | n, [], _, p, hp => by simp at hp
  | 0, (e, d) :: s, c, p, hp => by simp [chk] at c
  | n + 1, (e, d) :: s, c, p, hp => by
    by_cases h1 : 8 < d
    · simp [chk, h1] at c
    · have c2 : chk n (push e d ++ s) = true := by simpa [chk, h1] using c
      have ih := chk_dep n _ c2
      rcases List.mem_cons.mp hp with rfl | hp
      · have k : ∀ q ∈ kids e, dep q + (d + 1) ≤ 9 := fun q hq => ih (q, d + 1) (List.mem_append_left _ (List.mem_map.mpr ⟨q, List.mem_reverse.mpr hq, rfl⟩))
        show dep e + d ≤ 9
        cases e <;> simp only [kids, List.mem_cons, List.not_mem_nil, or_false, forall_eq_or_imp, forall_eq, dep] at k ⊢ <;> omega
      · exact ih p (List.mem_append_right _ hp)
theorem legal_dep {e : Ex} (h : legal e = true) : dep e ≤ 8 := by
  have := chk_dep 40 _ h (e, 1) (List.mem_singleton.mpr rfl)
  simp at this
  omega
end Dk75

/-! text Dk75e -/
set_option maxHeartbeats 1000000
set_option Elab.async false
set_option linter.all false
set_option maxRecDepth 100000
set_option autoImplicit false
set_option maxHeartbeats 8000000
/-! k75: expressions as texts. -/
namespace Dk75
open Dn
theorem q_lp : S "(" = [40] := by decide
theorem q_rp : S ")" = [41] := by decide
theorem q_sp : S " " = [32] := by decide
theorem q_lb : S "[" = [91] := by decide
theorem q_rb : S "]" = [93] := by decide
theorem q_dq : S "\"" = [34] := by decide
theorem q_cs : S ", " = [44, 32] := by decide
def shw : Ex → Tx
  | .num n => natT n
  | .txt t => S "\"" ++ t ++ S "\""
  | .box x => x
  | .two op a b => S "(" ++ shw a ++ S " " ++ op ++ S " " ++ shw b ++ S ")"
  | .cell x a => x ++ S "[" ++ shw a ++ S "]"
  | .fit x a => x ++ S "(" ++ shw a ++ S ")"
  | .one w a => w ++ S "(" ++ shw a ++ S ")"
  | .part a b c => S "part" ++ S "(" ++ (shw a ++ S ", " ++ (shw b ++ S ", " ++ shw c)) ++ S ")"
  | .alone w => w
theorem shw_len : ∀ (e : Ex), good e → (shw e).length + 50 ≤ 200 * 3 ^ dep e
  | .num n, g => by
    have g1 : n ≤ 1000000000000 := g
    have := natT_len (n := n) (k := 13) (by decide) (by omega)
    simp only [shw, dep]
    omega
  | .txt t, g => by
    have g1 : textOk t = true := g
    simp [textOk] at g1
    simp [shw, dep, q_dq]
    omega
  | .box x, g => by
    have := (nameOk_len g).2
    simp only [shw, dep]
    omega
  | .two op a b, g => by
    have h1 := shw_len a g.2.1
    have h2 := shw_len b g.2.2
    have h3 := (op_facts g.1).2.2.2.2.2.2.2.2
    have m1 : 3 ^ dep a ≤ 3 ^ max (dep a) (dep b) := Nat.pow_le_pow_right (by decide) (by omega)
    have m2 : 3 ^ dep b ≤ 3 ^ max (dep a) (dep b) := Nat.pow_le_pow_right (by decide) (by omega)
    simp only [shw, dep, q_lp, q_rp, q_sp, q_lb, q_rb, q_dq, q_cs, Nat.pow_succ, List.length_append, List.length_cons, List.length_nil]
    omega
  | .cell x a, g => by
    have h1 := shw_len a g.2
    have := (nameOk_len g.1).2
    simp only [shw, dep, q_lp, q_rp, q_sp, q_lb, q_rb, q_dq, q_cs, Nat.pow_succ, List.length_append, List.length_cons, List.length_nil]
    omega
  | .fit x a, g => by
    have h1 := shw_len a g.2
    have := (nameOk_len g.1).2
    simp only [shw, dep, q_lp, q_rp, q_sp, q_lb, q_rb, q_dq, q_cs, Nat.pow_succ, List.length_append, List.length_cons, List.length_nil]
    omega
  | .one w a, g => by
    have h1 := shw_len a g.2
    have : w.length ≤ 4 := by
      have g1 := g.1
      simp only [W1, List.mem_cons, List.not_mem_nil, or_false] at g1
      rcases g1 with rfl | rfl <;> decide
    simp only [shw, dep, q_lp, q_rp, q_sp, q_lb, q_rb, q_dq, q_cs, Nat.pow_succ, List.length_append, List.length_cons, List.length_nil]
    omega
  | .part a b c, g => by
    have h1 := shw_len a g.1
    have h2 := shw_len b g.2.1
    have h3 := shw_len c g.2.2
    have m1 : 3 ^ dep a ≤ 3 ^ max (dep a) (max (dep b) (dep c)) := Nat.pow_le_pow_right (by decide) (by omega)
    have m2 : 3 ^ dep b ≤ 3 ^ max (dep a) (max (dep b) (dep c)) := Nat.pow_le_pow_right (by decide) (by omega)
    have m3 : 3 ^ dep c ≤ 3 ^ max (dep a) (max (dep b) (dep c)) := Nat.pow_le_pow_right (by decide) (by omega)
    have l4 : (S "part").length = 4 := by decide
    simp only [shw, dep, q_lp, q_rp, q_sp, q_lb, q_rb, q_dq, q_cs, Nat.pow_succ, List.length_append, List.length_cons, List.length_nil, l4]
    omega
  | .alone w, g => by
    have g1 : w ∈ W0 := g
    simp only [W0, List.mem_cons, List.not_mem_nil, or_false] at g1
    rcases g1 with rfl | rfl <;> decide
theorem shw_big {e : Ex} (g : good e) (hd : dep e ≤ 9) : (shw e).length ≤ 4000000 := by
  have h := shw_len e g
  have : 3 ^ dep e ≤ 3 ^ 9 := Nat.pow_le_pow_right (by decide) hd
  have : (3 : Nat) ^ 9 = 19683 := by decide
  omega
theorem add_str (s t : Tx) (h : Hh) (z : s.length + t.length ≤ big) : opAdd (.str s) (.str t) h = .ok (.str (s ++ t)) h := by
  show (if s.length + t.length ≤ big then R.ok (D.str (s ++ t)) h else R.no) = _
  rw [if_pos z]
theorem join_eq (s : Tx) (ds : List Dn.D) (ts : List Tx) (h : Hh) (e : txsOf ds = some ts) (z : (ts.map List.length).sum + ts.length * s.length ≤ big) : fJoin (.str s) (.lst ds) h = .ok (.str (joinT s ts)) h := by
  unfold fJoin
  simp only [e]
  rw [if_pos z]
noncomputable def A_show_worth : Fn := tr 1 g_show_worth
theorem show_worth_t (t : Tx) (z : t.length ≤ 1000) (h : Hh) : A_show_worth [.str t] h = .ok (.str (S "\"" ++ t ++ S "\"")) h := by
  have x : run 1 g_show_worth [.str t] h = .ok (.str (S "\"" ++ t ++ S "\"")) h := by
    unfold g_show_worth
    have a1 : ∀ hh : Hh, opAdd (.str (S "\"")) (.str (t)) hh = .ok (.str (S "\"" ++ t)) hh := fun hh => add_str _ _ hh (by simp only [q_lp, q_rp, q_sp, q_lb, q_rb, q_dq, q_cs, List.length_append, List.length_cons, List.length_nil, big]; omega)
    have a2 : ∀ hh : Hh, opAdd (.str (S "\"" ++ t)) (.str (S "\"")) hh = .ok (.str (S "\"" ++ t ++ S "\"")) hh := fun hh => add_str _ _ hh (by simp only [q_lp, q_rp, q_sp, q_lb, q_rb, q_dq, q_cs, List.length_append, List.length_cons, List.length_nil, big]; omega)
    simp [run, start, sSeq, sSet, sNil, sExpr, sRet, sRetN, sIf, sNo, sPut, Dn.sFld, Dn.sFldAdd, sAug, eVar, eC, Dn.e1, Dn.e2, aNil, aCons, eTup, eLst, eCall, tE, tBl, Dn.tNot, Dn.tAnd, Dn.tOr, Dn.tYes, eIf, eAnd, eOr, eNot, eChain, eB, on1, on2, bLen, fLen, bIsi, fIsi, tyOf, isT, bAll, fAll, bAny, fAny, bStr, fStr, bInt, fInt, bAbs, fAbs, bMin, fMin, bTuple, fTuple, bList, fList, opSub, opMul, opDiv, opMod, opPow, opNeg, opItem, opSlice, eSlice, oNone, oSome, opAddI, cEq, cNe, cLt, cLe, cGt, cGe, cIn, keyD, truth, deref, Dn.gName, Dn.gNil, Dn.gCons, Dn.gTup, Dn.gStar, R.bind_ok, R.bind_no, R.thenS_ok, R.thenS_no, RS.next_nx, RS.next_rt, RS.next_no, onG_ok, eFld, fget, fput, insOf, setF, eMeth, onIns, eBM, eBM0, tyD, mAppend, mPop, mExtend, mJoin, mFind, Dn.m0, Dn.m1, Dn.m2, eBox, eFrz, eMake, big, a1, a2, -List.append_assoc]
  show trim h _ = _
  rw [x, trim_same]
theorem show_worth_n (n : Nat) (z : n ≤ 1000000000000) (h : Hh) : A_show_worth [.int n] h = .ok (.str (natT n)) h := by
  have zz : n < 2 ^ 1900 := Nat.lt_of_le_of_lt z (by decide +kernel)
  have zb : fStr (.int (n : Int)) h = .ok (.str (natT n)) h := by
    show (if ((n : Int)).natAbs < 2 ^ 1900 then R.ok (D.str (intT n)) h else R.no) = _
    rw [Int.natAbs_natCast, if_pos zz]
    unfold intT
    rw [if_neg (by omega), Int.natAbs_natCast]
  have x : run 1 g_show_worth [.int n] h = .ok (.str (natT n)) h := by
    unfold g_show_worth
    simp [run, start, sSeq, sSet, sNil, sExpr, sRet, sRetN, sIf, sNo, sPut, Dn.sFld, Dn.sFldAdd, sAug, eVar, eC, Dn.e1, Dn.e2, aNil, aCons, eTup, eLst, eCall, tE, tBl, Dn.tNot, Dn.tAnd, Dn.tOr, Dn.tYes, eIf, eAnd, eOr, eNot, eChain, eB, on1, on2, bLen, fLen, bIsi, fIsi, tyOf, isT, bAll, fAll, bAny, fAny, bStr, bInt, fInt, bAbs, fAbs, bMin, fMin, bTuple, fTuple, bList, fList, opSub, opMul, opDiv, opMod, opPow, opNeg, opItem, opSlice, eSlice, oNone, oSome, opAddI, cEq, cNe, cLt, cLe, cGt, cGe, cIn, keyD, truth, deref, Dn.gName, Dn.gNil, Dn.gCons, Dn.gTup, Dn.gStar, R.bind_ok, R.bind_no, R.thenS_ok, R.thenS_no, RS.next_nx, RS.next_rt, RS.next_no, onG_ok, eFld, fget, fput, insOf, setF, eMeth, onIns, eBM, eBM0, tyD, mAppend, mPop, mExtend, mJoin, mFind, Dn.m0, Dn.m1, Dn.m2, eBox, eFrz, eMake, big, zb]
  show trim h _ = _
  rw [x, trim_same]
theorem isDataS (a : Tx) : isData 60 (.lst [.str a]) = true := rfl
theorem isDataS3 (a b c : Tx) : isData 60 (.lst [.str a, .str b, .str c]) = true := rfl
/-- to a depth -/
noncomputable def A_show : Nat → Fn
  | 0 => fun _ _ => .no
  | n + 1 => tr 5 (g_show_expression A_show_worth A_parts_of (A_show n))
theorem belows_str {α : Type} (n : Nat) (l : List α) (p : α → Tx) : belows n (l.map fun a => D.str (p a)) = true := by
  induction l with
  | nil => rfl
  | cons a l ih => simpa [belows, below] using ih
theorem show_eq : ∀ (n : Nat) (e : Ex), good e → dep e ≤ n → dep e ≤ 9 → ∀ h : Hh, A_show n [toD e] h = .ok (.str (shw e)) h
  | 0, e, g, hd, _, h => by cases e <;> simp [dep] at hd
  | n + 1, e, g, hd, h9, h => by
    have ih : ∀ k ∈ kids e, ∀ h : Hh, A_show n [toD k] h = .ok (.str (shw k)) h := fun k hk h => show_eq n k (good_kids g hk) (by have := dep_kids hk; omega) (by have := dep_kids hk; omega) h
    have kb : ∀ k ∈ kids e, (shw k).length ≤ 4000000 := fun k hk => shw_big (good_kids g hk) (by have := dep_kids hk; omega)
    have c : ∀ (o : Option Dn.D) (o2 o3 : Option Dn.D), eComp (iE itL (eCall 1 A_parts_of [] (aCons (eVar 0) aNil))) (Dn.gName 4) Dn.tYes (eCall 1 (A_show n) [] (aCons (eVar 4) aNil)) [4] [some (toD e), o, o2, o3, none] h = .ok (.lst ((kids e).map fun k => .str (shw k))) h := fun o o2 o3 => by
      have c := comp_map (kids e) toD (fun k => some (.str (shw k))) (it := iE itL (eCall 1 A_parts_of [] (aCons (eVar 0) aNil))) (g := Dn.gName 4) (t := Dn.tYes) (a := eCall 1 (A_show n) [] (aCons (eVar 4) aNil)) (vs := [4]) (env := [some (toD e), o, o2, o3, none]) (h := h) (h1 := h)
        (by simp [iE, itL, run, start, sSeq, sSet, sNil, sExpr, sRet, sRetN, sIf, sNo, sPut, Dn.sFld, Dn.sFldAdd, sAug, eVar, eC, Dn.e1, Dn.e2, aNil, aCons, eTup, eLst, eCall, tE, tBl, Dn.tNot, Dn.tAnd, Dn.tOr, Dn.tYes, eIf, eAnd, eOr, eNot, eChain, eB, on1, on2, bLen, fLen, bIsi, fIsi, tyOf, isT, bAll, fAll, bAny, fAny, bStr, fStr, bInt, fInt, bAbs, fAbs, bMin, fMin, bTuple, fTuple, bList, fList, opAdd, opSub, opMul, opDiv, opMod, opPow, opNeg, opItem, opSlice, eSlice, oNone, oSome, opAddI, cEq, cNe, cLt, cLe, cGt, cGe, cIn, keyD, truth, deref, Dn.gName, Dn.gNil, Dn.gCons, Dn.gTup, Dn.gStar, R.bind_ok, R.bind_no, R.thenS_ok, R.thenS_no, RS.next_nx, RS.next_rt, RS.next_no, onG_ok, eFld, fget, fput, insOf, setF, eMeth, onIns, eBM, eBM0, tyD, mAppend, mPop, mExtend, mJoin, mFind, Dn.m0, Dn.m1, Dn.m2, eBox, eFrz, eMake, big, parts_of_eq e g]) (fun k hk acc => by simp [turnC, run, start, sSeq, sSet, sNil, sExpr, sRet, sRetN, sIf, sNo, sPut, Dn.sFld, Dn.sFldAdd, sAug, eVar, eC, Dn.e1, Dn.e2, aNil, aCons, eTup, eLst, eCall, tE, tBl, Dn.tNot, Dn.tAnd, Dn.tOr, Dn.tYes, eIf, eAnd, eOr, eNot, eChain, eB, on1, on2, bLen, fLen, bIsi, fIsi, tyOf, isT, bAll, fAll, bAny, fAny, bStr, fStr, bInt, fInt, bAbs, fAbs, bMin, fMin, bTuple, fTuple, bList, fList, opAdd, opSub, opMul, opDiv, opMod, opPow, opNeg, opItem, opSlice, eSlice, oNone, oSome, opAddI, cEq, cNe, cLt, cLe, cGt, cGe, cIn, keyD, truth, deref, Dn.gName, Dn.gNil, Dn.gCons, Dn.gTup, Dn.gStar, R.bind_ok, R.bind_no, R.thenS_ok, R.thenS_no, RS.next_nx, RS.next_rt, RS.next_no, onG_ok, eFld, fget, fput, insOf, setF, eMeth, onIns, eBM, eBM0, tyD, mAppend, mPop, mExtend, mJoin, mFind, Dn.m0, Dn.m1, Dn.m2, eBox, eFrz, eMake, big, wipe, ih k hk]) (by rw [filterMap_some]; exact belows_str _ _ _) (Nat.le_trans (kids_len e) (by decide))
      rw [filterMap_some] at c
      exact c
    have x : run 5 (g_show_expression A_show_worth A_parts_of (A_show n)) [toD e] h = .ok (.str (shw e)) h := by
      unfold g_show_expression
      cases e with
      | num m =>
        have w := show_worth_n m g h
        simp [run, start, sSeq, sSet, sNil, sExpr, sRet, sRetN, sIf, sNo, sPut, Dn.sFld, Dn.sFldAdd, sAug, eVar, eC, Dn.e1, Dn.e2, aNil, aCons, eTup, eLst, eCall, tE, tBl, Dn.tNot, Dn.tAnd, Dn.tOr, Dn.tYes, eIf, eAnd, eOr, eNot, eChain, eB, on1, on2, bLen, fLen, bIsi, fIsi, tyOf, isT, bAll, fAll, bAny, fAny, bStr, fStr, bInt, fInt, bAbs, fAbs, bMin, fMin, bTuple, fTuple, bList, fList, opAdd, opSub, opMul, opDiv, opMod, opPow, opNeg, opItem, opSlice, eSlice, oNone, oSome, opAddI, cEq, cNe, cLt, cLe, cGt, cGe, cIn, keyD, truth, deref, Dn.gName, Dn.gNil, Dn.gCons, Dn.gTup, Dn.gStar, R.bind_ok, R.bind_no, R.thenS_ok, R.thenS_no, RS.next_nx, RS.next_rt, RS.next_no, onG_ok, eFld, fget, fput, insOf, setF, eMeth, onIns, eBM, eBM0, tyD, mAppend, mPop, mExtend, mJoin, mFind, Dn.m0, Dn.m1, Dn.m2, eBox, eFrz, eMake, big, toD, shw, eqv_ss, eqv_ii, eqv_bb, eqv_tt, eqv_ll, eqv_ts, eqv_st, eqvL_nn, eqvL_nc, eqvL_cn, eqvL_cc, flatD, S_beq, atIx, ixN, w]
      | txt t =>
        have g1 : textOk t = true := g
        simp [textOk] at g1
        have w := show_worth_t t (by omega) h
        simp [run, start, sSeq, sSet, sNil, sExpr, sRet, sRetN, sIf, sNo, sPut, Dn.sFld, Dn.sFldAdd, sAug, eVar, eC, Dn.e1, Dn.e2, aNil, aCons, eTup, eLst, eCall, tE, tBl, Dn.tNot, Dn.tAnd, Dn.tOr, Dn.tYes, eIf, eAnd, eOr, eNot, eChain, eB, on1, on2, bLen, fLen, bIsi, fIsi, tyOf, isT, bAll, fAll, bAny, fAny, bStr, fStr, bInt, fInt, bAbs, fAbs, bMin, fMin, bTuple, fTuple, bList, fList, opSub, opMul, opDiv, opMod, opPow, opNeg, opItem, opSlice, eSlice, oNone, oSome, opAddI, cEq, cNe, cLt, cLe, cGt, cGe, cIn, keyD, truth, deref, Dn.gName, Dn.gNil, Dn.gCons, Dn.gTup, Dn.gStar, R.bind_ok, R.bind_no, R.thenS_ok, R.thenS_no, RS.next_nx, RS.next_rt, RS.next_no, onG_ok, eFld, fget, fput, insOf, setF, eMeth, onIns, eBM, eBM0, tyD, mAppend, mPop, mExtend, mJoin, mFind, Dn.m0, Dn.m1, Dn.m2, eBox, eFrz, eMake, big, toD, shw, eqv_ss, eqv_ii, eqv_bb, eqv_tt, eqv_ll, eqv_ts, eqv_st, eqvL_nn, eqvL_nc, eqvL_cn, eqvL_cc, flatD, S_beq, atIx, ixN, w]
      | box t =>
        simp [run, start, sSeq, sSet, sNil, sExpr, sRet, sRetN, sIf, sNo, sPut, Dn.sFld, Dn.sFldAdd, sAug, eVar, eC, Dn.e1, Dn.e2, aNil, aCons, eTup, eLst, eCall, tE, tBl, Dn.tNot, Dn.tAnd, Dn.tOr, Dn.tYes, eIf, eAnd, eOr, eNot, eChain, eB, on1, on2, bLen, fLen, bIsi, fIsi, tyOf, isT, bAll, fAll, bAny, fAny, bStr, fStr, bInt, fInt, bAbs, fAbs, bMin, fMin, bTuple, fTuple, bList, fList, opAdd, opSub, opMul, opDiv, opMod, opPow, opNeg, opItem, opSlice, eSlice, oNone, oSome, opAddI, cEq, cNe, cLt, cLe, cGt, cGe, cIn, keyD, truth, deref, Dn.gName, Dn.gNil, Dn.gCons, Dn.gTup, Dn.gStar, R.bind_ok, R.bind_no, R.thenS_ok, R.thenS_no, RS.next_nx, RS.next_rt, RS.next_no, onG_ok, eFld, fget, fput, insOf, setF, eMeth, onIns, eBM, eBM0, tyD, mAppend, mPop, mExtend, mJoin, mFind, Dn.m0, Dn.m1, Dn.m2, eBox, eFrz, eMake, big, toD, shw, eqv_ss, eqv_ii, eqv_bb, eqv_tt, eqv_ll, eqv_ts, eqv_st, eqvL_nn, eqvL_nc, eqvL_cn, eqvL_cc, flatD, S_beq, atIx, ixN, isData0]
      | two op a b =>
        obtain ⟨_, _, c1, c2, c3, c4, c5, c6, ol⟩ := op_facts g.1
        have b1 := kb a (by simp [kids])
        have b2 := kb b (by simp [kids])
        have c' := c none (some (.str op)) (some (.lst [toD a, toD b]))
        simp only [toD, kids, List.map_cons, List.map_nil] at c'
        have a1 : ∀ hh : Hh, opAdd (.str (S "(")) (.str (shw a)) hh = .ok (.str (S "(" ++ shw a)) hh := fun hh => add_str _ _ hh (by simp only [q_lp, q_rp, q_sp, q_lb, q_rb, q_dq, q_cs, List.length_append, List.length_cons, List.length_nil, big]; omega)
        have a2 : ∀ hh : Hh, opAdd (.str (S "(" ++ shw a)) (.str (S " ")) hh = .ok (.str (S "(" ++ shw a ++ S " ")) hh := fun hh => add_str _ _ hh (by simp only [q_lp, q_rp, q_sp, q_lb, q_rb, q_dq, q_cs, List.length_append, List.length_cons, List.length_nil, big]; omega)
        have a3 : ∀ hh : Hh, opAdd (.str (S "(" ++ shw a ++ S " ")) (.str (op)) hh = .ok (.str (S "(" ++ shw a ++ S " " ++ op)) hh := fun hh => add_str _ _ hh (by simp only [q_lp, q_rp, q_sp, q_lb, q_rb, q_dq, q_cs, List.length_append, List.length_cons, List.length_nil, big]; omega)
        have a4 : ∀ hh : Hh, opAdd (.str (S "(" ++ shw a ++ S " " ++ op)) (.str (S " ")) hh = .ok (.str (S "(" ++ shw a ++ S " " ++ op ++ S " ")) hh := fun hh => add_str _ _ hh (by simp only [q_lp, q_rp, q_sp, q_lb, q_rb, q_dq, q_cs, List.length_append, List.length_cons, List.length_nil, big]; omega)
        have a5 : ∀ hh : Hh, opAdd (.str (S "(" ++ shw a ++ S " " ++ op ++ S " ")) (.str (shw b)) hh = .ok (.str (S "(" ++ shw a ++ S " " ++ op ++ S " " ++ shw b)) hh := fun hh => add_str _ _ hh (by simp only [q_lp, q_rp, q_sp, q_lb, q_rb, q_dq, q_cs, List.length_append, List.length_cons, List.length_nil, big]; omega)
        have a6 : ∀ hh : Hh, opAdd (.str (S "(" ++ shw a ++ S " " ++ op ++ S " " ++ shw b)) (.str (S ")")) hh = .ok (.str (S "(" ++ shw a ++ S " " ++ op ++ S " " ++ shw b ++ S ")")) hh := fun hh => add_str _ _ hh (by simp only [q_lp, q_rp, q_sp, q_lb, q_rb, q_dq, q_cs, List.length_append, List.length_cons, List.length_nil, big]; omega)
        simp [run, start, sSeq, sSet, sNil, sExpr, sRet, sRetN, sIf, sNo, sPut, Dn.sFld, Dn.sFldAdd, sAug, eVar, eC, Dn.e1, Dn.e2, aNil, aCons, eTup, eLst, eCall, tE, tBl, Dn.tNot, Dn.tAnd, Dn.tOr, Dn.tYes, eIf, eAnd, eOr, eNot, eChain, eB, on1, on2, bLen, fLen, bIsi, fIsi, tyOf, isT, bAll, fAll, bAny, fAny, bStr, fStr, bInt, fInt, bAbs, fAbs, bMin, fMin, bTuple, fTuple, bList, fList, opSub, opMul, opDiv, opMod, opPow, opNeg, opItem, opSlice, eSlice, oNone, oSome, opAddI, cNe, cLt, cLe, cGt, cGe, keyD, truth, deref, Dn.gName, Dn.gNil, Dn.gCons, Dn.gTup, Dn.gStar, R.bind_ok, R.bind_no, R.thenS_ok, R.thenS_no, RS.next_nx, RS.next_rt, RS.next_no, onG_ok, eFld, fget, fput, insOf, setF, eMeth, onIns, eBM, eBM0, tyD, mAppend, mPop, mExtend, mJoin, mFind, Dn.m0, Dn.m1, Dn.m2, eBox, eFrz, eMake, big, toD, c1, c2, c3, c4, c5, c', atIx, ixN, a1, a2, a3, a4, a5, a6, shw, -List.append_assoc]
      | cell x a =>
        have b1 := kb a (by simp [kids])
        have nl := (nameOk_len g.1).2
        have c' := c none (some (.str (S "cell"))) (some (.lst [.str x, toD a]))
        simp only [toD, kids, List.map_cons, List.map_nil] at c'
        have a1 : ∀ hh : Hh, opAdd (.str (x)) (.str (S "[")) hh = .ok (.str (x ++ S "[")) hh := fun hh => add_str _ _ hh (by simp only [q_lp, q_rp, q_sp, q_lb, q_rb, q_dq, q_cs, List.length_append, List.length_cons, List.length_nil, big]; omega)
        have a2 : ∀ hh : Hh, opAdd (.str (x ++ S "[")) (.str (shw a)) hh = .ok (.str (x ++ S "[" ++ shw a)) hh := fun hh => add_str _ _ hh (by simp only [q_lp, q_rp, q_sp, q_lb, q_rb, q_dq, q_cs, List.length_append, List.length_cons, List.length_nil, big]; omega)
        have a3 : ∀ hh : Hh, opAdd (.str (x ++ S "[" ++ shw a)) (.str (S "]")) hh = .ok (.str (x ++ S "[" ++ shw a ++ S "]")) hh := fun hh => add_str _ _ hh (by simp only [q_lp, q_rp, q_sp, q_lb, q_rb, q_dq, q_cs, List.length_append, List.length_cons, List.length_nil, big]; omega)
        simp [run, start, sSeq, sSet, sNil, sExpr, sRet, sRetN, sIf, sNo, sPut, Dn.sFld, Dn.sFldAdd, sAug, eVar, eC, Dn.e1, Dn.e2, aNil, aCons, eTup, eLst, eCall, tE, tBl, Dn.tNot, Dn.tAnd, Dn.tOr, Dn.tYes, eIf, eAnd, eOr, eNot, eChain, eB, on1, on2, bLen, fLen, bIsi, fIsi, tyOf, isT, bAll, fAll, bAny, fAny, bStr, fStr, bInt, fInt, bAbs, fAbs, bMin, fMin, bTuple, fTuple, bList, fList, opSub, opMul, opDiv, opMod, opPow, opNeg, opItem, opSlice, eSlice, oNone, oSome, opAddI, cEq, cNe, cLt, cLe, cGt, cGe, cIn, keyD, truth, deref, Dn.gName, Dn.gNil, Dn.gCons, Dn.gTup, Dn.gStar, R.bind_ok, R.bind_no, R.thenS_ok, R.thenS_no, RS.next_nx, RS.next_rt, RS.next_no, onG_ok, eFld, fget, fput, insOf, setF, eMeth, onIns, eBM, eBM0, tyD, mAppend, mPop, mExtend, mJoin, mFind, Dn.m0, Dn.m1, Dn.m2, eBox, eFrz, eMake, big, toD, eqv_ss, eqv_ii, eqv_bb, eqv_tt, eqv_ll, eqv_ts, eqv_st, eqvL_nn, eqvL_nc, eqvL_cn, eqvL_cc, flatD, S_beq, isData0, c', k_SIGNS_words, atIx, ixN, a1, a2, a3, shw, -List.append_assoc]
      | fit x a =>
        have b1 := kb a (by simp [kids])
        have nl := (nameOk_len g.1).2
        have c' := c none (some (.str (S "fit"))) (some (.lst [.str x, toD a]))
        simp only [toD, kids, List.map_cons, List.map_nil] at c'
        have a1 : ∀ hh : Hh, opAdd (.str (x)) (.str (S "(")) hh = .ok (.str (x ++ S "(")) hh := fun hh => add_str _ _ hh (by simp only [q_lp, q_rp, q_sp, q_lb, q_rb, q_dq, q_cs, List.length_append, List.length_cons, List.length_nil, big]; omega)
        have a2 : ∀ hh : Hh, opAdd (.str (x ++ S "(")) (.str (shw a)) hh = .ok (.str (x ++ S "(" ++ shw a)) hh := fun hh => add_str _ _ hh (by simp only [q_lp, q_rp, q_sp, q_lb, q_rb, q_dq, q_cs, List.length_append, List.length_cons, List.length_nil, big]; omega)
        have a3 : ∀ hh : Hh, opAdd (.str (x ++ S "(" ++ shw a)) (.str (S ")")) hh = .ok (.str (x ++ S "(" ++ shw a ++ S ")")) hh := fun hh => add_str _ _ hh (by simp only [q_lp, q_rp, q_sp, q_lb, q_rb, q_dq, q_cs, List.length_append, List.length_cons, List.length_nil, big]; omega)
        simp [run, start, sSeq, sSet, sNil, sExpr, sRet, sRetN, sIf, sNo, sPut, Dn.sFld, Dn.sFldAdd, sAug, eVar, eC, Dn.e1, Dn.e2, aNil, aCons, eTup, eLst, eCall, tE, tBl, Dn.tNot, Dn.tAnd, Dn.tOr, Dn.tYes, eIf, eAnd, eOr, eNot, eChain, eB, on1, on2, bLen, fLen, bIsi, fIsi, tyOf, isT, bAll, fAll, bAny, fAny, bStr, fStr, bInt, fInt, bAbs, fAbs, bMin, fMin, bTuple, fTuple, bList, fList, opSub, opMul, opDiv, opMod, opPow, opNeg, opItem, opSlice, eSlice, oNone, oSome, opAddI, cEq, cNe, cLt, cLe, cGt, cGe, cIn, keyD, truth, deref, Dn.gName, Dn.gNil, Dn.gCons, Dn.gTup, Dn.gStar, R.bind_ok, R.bind_no, R.thenS_ok, R.thenS_no, RS.next_nx, RS.next_rt, RS.next_no, onG_ok, eFld, fget, fput, insOf, setF, eMeth, onIns, eBM, eBM0, tyD, mAppend, mPop, mExtend, mJoin, mFind, Dn.m0, Dn.m1, Dn.m2, eBox, eFrz, eMake, big, toD, eqv_ss, eqv_ii, eqv_bb, eqv_tt, eqv_ll, eqv_ts, eqv_st, eqvL_nn, eqvL_nc, eqvL_cn, eqvL_cc, flatD, S_beq, isData0, c', k_SIGNS_words, atIx, ixN, a1, a2, a3, shw, -List.append_assoc]
      | one w a =>
        have b1 := kb a (by simp [kids])
        have wl : w.length ≤ 4 := by
          have g1 := g.1
          simp only [W1, List.mem_cons, List.not_mem_nil, or_false] at g1
          rcases g1 with rfl | rfl <;> decide
        have c' := c none (some (.str w)) (some (.lst [toD a]))
        simp only [toD, kids, List.map_cons, List.map_nil] at c'
        have a1 : ∀ hh : Hh, opAdd (.str (w)) (.str (S "(")) hh = .ok (.str (w ++ S "(")) hh := fun hh => add_str _ _ hh (by simp only [q_lp, q_rp, q_sp, q_lb, q_rb, q_dq, q_cs, List.length_append, List.length_cons, List.length_nil, big]; omega)
        have a2 : ∀ hh : Hh, opAdd (.str (w ++ S "(")) (.str (shw a)) hh = .ok (.str (w ++ S "(" ++ shw a)) hh := fun hh => add_str _ _ hh (by simp only [q_lp, q_rp, q_sp, q_lb, q_rb, q_dq, q_cs, List.length_append, List.length_cons, List.length_nil, big]; omega)
        have a3 : ∀ hh : Hh, opAdd (.str (w ++ S "(" ++ shw a)) (.str (S ")")) hh = .ok (.str (w ++ S "(" ++ shw a ++ S ")")) hh := fun hh => add_str _ _ hh (by simp only [q_lp, q_rp, q_sp, q_lb, q_rb, q_dq, q_cs, List.length_append, List.length_cons, List.length_nil, big]; omega)
        have j : ∀ hh : Hh, fJoin (.str (S ", ")) (.lst [.str (shw a)]) hh = .ok (.str (shw a)) hh := fun hh => join_eq _ _ [shw a] hh rfl (by simp [q_cs, big]; omega)
        have g1 := g.1
        simp only [W1, List.mem_cons, List.not_mem_nil, or_false] at g1
        rcases g1 with rfl | rfl <;> simp [run, start, sSeq, sSet, sNil, sExpr, sRet, sRetN, sIf, sNo, sPut, Dn.sFld, Dn.sFldAdd, sAug, eVar, eC, Dn.e1, Dn.e2, aNil, aCons, eTup, eLst, eCall, tE, tBl, Dn.tNot, Dn.tAnd, Dn.tOr, Dn.tYes, eIf, eAnd, eOr, eNot, eChain, eB, on1, on2, bLen, fLen, bIsi, fIsi, tyOf, isT, bAll, fAll, bAny, fAny, bStr, fStr, bInt, fInt, bAbs, fAbs, bMin, fMin, bTuple, fTuple, bList, fList, opSub, opMul, opDiv, opMod, opPow, opNeg, opItem, opSlice, eSlice, oNone, oSome, opAddI, cEq, cNe, cLt, cLe, cGt, cGe, cIn, keyD, truth, deref, Dn.gName, Dn.gNil, Dn.gCons, Dn.gTup, Dn.gStar, R.bind_ok, R.bind_no, R.thenS_ok, R.thenS_no, RS.next_nx, RS.next_rt, RS.next_no, onG_ok, eFld, fget, fput, insOf, setF, eMeth, onIns, eBM, eBM0, tyD, mAppend, mPop, mExtend, mJoin, mFind, Dn.m0, Dn.m1, Dn.m2, eBox, eFrz, eMake, big, toD, eqv_ss, eqv_ii, eqv_bb, eqv_tt, eqv_ll, eqv_ts, eqv_st, eqvL_nn, eqvL_nc, eqvL_cn, eqvL_cc, flatD, S_beq, isData0, isDataE, isDataS, isDataS3, c', k_SIGNS_words, atIx, ixN, a1, a2, a3, j, shw, -List.append_assoc]
      | part x y z =>
        have b1 := kb x (by simp [kids])
        have b2 := kb y (by simp [kids])
        have b3 := kb z (by simp [kids])
        have c' := c none (some (.str (S "part"))) (some (.lst [toD x, toD y, toD z]))
        simp only [toD, kids, List.map_cons, List.map_nil] at c'
        have l4 : (S "part").length = 4 := by decide
        have a1 : ∀ hh : Hh, opAdd (.str (S "part")) (.str (S "(")) hh = .ok (.str (S "part" ++ S "(")) hh := fun hh => add_str _ _ hh (by decide)
        have a2 : ∀ hh : Hh, opAdd (.str (S "part" ++ S "(")) (.str (shw x ++ S ", " ++ (shw y ++ S ", " ++ shw z))) hh = .ok (.str (S "part" ++ S "(" ++ (shw x ++ S ", " ++ (shw y ++ S ", " ++ shw z)))) hh := fun hh => add_str _ _ hh (by simp only [l4, q_lp, q_cs, List.length_append, List.length_cons, List.length_nil, big]; omega)
        have a3 : ∀ hh : Hh, opAdd (.str (S "part" ++ S "(" ++ (shw x ++ S ", " ++ (shw y ++ S ", " ++ shw z)))) (.str (S ")")) hh = .ok (.str (S "part" ++ S "(" ++ (shw x ++ S ", " ++ (shw y ++ S ", " ++ shw z)) ++ S ")")) hh := fun hh => add_str _ _ hh (by simp only [l4, q_lp, q_rp, q_cs, List.length_append, List.length_cons, List.length_nil, big]; omega)
        have j : ∀ hh : Hh, fJoin (.str (S ", ")) (.lst [.str (shw x), .str (shw y), .str (shw z)]) hh = .ok (.str (shw x ++ S ", " ++ (shw y ++ S ", " ++ shw z))) hh := fun hh => join_eq _ _ [shw x, shw y, shw z] hh rfl (by simp [q_cs, big]; omega)
        simp [run, start, sSeq, sSet, sNil, sExpr, sRet, sRetN, sIf, sNo, sPut, Dn.sFld, Dn.sFldAdd, sAug, eVar, eC, Dn.e1, Dn.e2, aNil, aCons, eTup, eLst, eCall, tE, tBl, Dn.tNot, Dn.tAnd, Dn.tOr, Dn.tYes, eIf, eAnd, eOr, eNot, eChain, eB, on1, on2, bLen, fLen, bIsi, fIsi, tyOf, isT, bAll, fAll, bAny, fAny, bStr, fStr, bInt, fInt, bAbs, fAbs, bMin, fMin, bTuple, fTuple, bList, fList, opSub, opMul, opDiv, opMod, opPow, opNeg, opItem, opSlice, eSlice, oNone, oSome, opAddI, cEq, cNe, cLt, cLe, cGt, cGe, cIn, keyD, truth, deref, Dn.gName, Dn.gNil, Dn.gCons, Dn.gTup, Dn.gStar, R.bind_ok, R.bind_no, R.thenS_ok, R.thenS_no, RS.next_nx, RS.next_rt, RS.next_no, onG_ok, eFld, fget, fput, insOf, setF, eMeth, onIns, eBM, eBM0, tyD, mAppend, mPop, mExtend, mJoin, mFind, Dn.m0, Dn.m1, Dn.m2, eBox, eFrz, eMake, big, toD, eqv_ss, eqv_ii, eqv_bb, eqv_tt, eqv_ll, eqv_ts, eqv_st, eqvL_nn, eqvL_nc, eqvL_cn, eqvL_cc, flatD, S_beq, isData0, isDataE, isDataS, isDataS3, c', k_SIGNS_words, atIx, ixN, a1, a2, a3, j, shw, -List.append_assoc]
      | alone w =>
        have g1 : w ∈ W0 := g
        have c' := c none (some (.str w)) (some (.lst []))
        simp only [toD, kids, List.map_cons, List.map_nil] at c'
        simp only [W0, List.mem_cons, List.not_mem_nil, or_false] at g1
        rcases g1 with rfl | rfl <;> simp [run, start, sSeq, sSet, sNil, sExpr, sRet, sRetN, sIf, sNo, sPut, Dn.sFld, Dn.sFldAdd, sAug, eVar, eC, Dn.e1, Dn.e2, aNil, aCons, eTup, eLst, eCall, tE, tBl, Dn.tNot, Dn.tAnd, Dn.tOr, Dn.tYes, eIf, eAnd, eOr, eNot, eChain, eB, on1, on2, bLen, fLen, bIsi, fIsi, tyOf, isT, bAll, fAll, bAny, fAny, bStr, fStr, bInt, fInt, bAbs, fAbs, bMin, fMin, bTuple, fTuple, bList, fList, opSub, opMul, opDiv, opMod, opPow, opNeg, opItem, opSlice, eSlice, oNone, oSome, opAddI, cEq, cNe, cLt, cLe, cGt, cGe, cIn, keyD, truth, deref, Dn.gName, Dn.gNil, Dn.gCons, Dn.gTup, Dn.gStar, R.bind_ok, R.bind_no, R.thenS_ok, R.thenS_no, RS.next_nx, RS.next_rt, RS.next_no, onG_ok, eFld, fget, fput, insOf, setF, eMeth, onIns, eBM, eBM0, tyD, mAppend, mPop, mExtend, mJoin, mFind, Dn.m0, Dn.m1, Dn.m2, eBox, eFrz, eMake, big, toD, eqv_ss, eqv_ii, eqv_bb, eqv_tt, eqv_ll, eqv_ts, eqv_st, eqvL_nn, eqvL_nc, eqvL_cn, eqvL_cc, flatD, S_beq, isData0, isDataE, c', k_SIGNS_words, atIx, ixN, shw]
    show trim h _ = _
    rw [x, trim_same]
end Dk75

/-! text Dk75f -/
set_option maxHeartbeats 1000000
set_option Elab.async false
set_option linter.all false
set_option maxRecDepth 100000
set_option autoImplicit false
set_option maxHeartbeats 8000000
/-! k75: expressions as texts, the law's own way. -/
namespace Dk75
open Dn
noncomputable def A_shown : Nat → Fn
  | 0 => fun _ _ => .no
  | n + 1 => tr 4 (g_l_shown (A_shown n))
theorem op_more {op : Tx} (h : op ∈ OPS) : ∀ hh : Hh, cIn (.str op) (.tup [.str (S "not"), .str (S "size"), .str (S "part")]) hh = .ok (.bl false) hh := by
  simp only [OPS, List.mem_cons, List.not_mem_nil, or_false] at h
  rcases h with rfl | rfl | rfl | rfl | rfl | rfl | rfl | rfl | rfl | rfl <;> exact fun _ => rfl
/-- the expression's parts as they stand in the tuple -/
theorem shown_comp (n : Nat) (ks : List Ex) (w : Tx) (h : Hh) (o1 o2 : Option Dn.D) (ih : ∀ k ∈ ks, ∀ h : Hh, A_shown n [toD k] h = .ok (.str (shw k)) h) (z : ks.length ≤ 10) :
    eComp (iE itT (eSlice (eVar 0) (oSome (eC (.int 1))) oNone)) (Dn.gName 3) Dn.tYes (eCall 1 (A_shown n) [] (aCons (eVar 3) aNil)) [3] [some (.tup (.str w :: ks.map toD)), o1, o2, none] h = .ok (.lst (ks.map fun k => .str (shw k))) h := by
  have c := comp_map ks toD (fun k => some (.str (shw k))) (it := iE itT (eSlice (eVar 0) (oSome (eC (.int 1))) oNone)) (g := Dn.gName 3) (t := Dn.tYes) (a := eCall 1 (A_shown n) [] (aCons (eVar 3) aNil)) (vs := [3]) (env := [some (.tup (.str w :: ks.map toD)), o1, o2, none]) (h := h) (h1 := h)
    (by simp [iE, itT, run, start, sSeq, sSet, sNil, sExpr, sRet, sRetN, sIf, sNo, sPut, Dn.sFld, Dn.sFldAdd, sAug, eVar, eC, Dn.e1, Dn.e2, aNil, aCons, eTup, eLst, eCall, tE, tBl, Dn.tNot, Dn.tAnd, Dn.tOr, Dn.tYes, eIf, eAnd, eOr, eNot, eChain, eB, on1, on2, bLen, fLen, bIsi, fIsi, tyOf, isT, bAll, fAll, bAny, fAny, bStr, fStr, bInt, fInt, bAbs, fAbs, bMin, fMin, bTuple, fTuple, bList, fList, opAdd, opSub, opMul, opDiv, opMod, opPow, opNeg, opItem, opSlice, eSlice, oNone, oSome, opAddI, cEq, cNe, cLt, cLe, cGt, cGe, cIn, keyD, truth, deref, Dn.gName, Dn.gNil, Dn.gCons, Dn.gTup, Dn.gStar, R.bind_ok, R.bind_no, R.thenS_ok, R.thenS_no, RS.next_nx, RS.next_rt, RS.next_no, onG_ok, eFld, fget, fput, insOf, setF, eMeth, onIns, eBM, eBM0, tyD, mAppend, mPop, mExtend, mJoin, mFind, Dn.m0, Dn.m1, Dn.m2, eBox, eFrz, eMake, big, slc, clampI]; exact List.take_of_length_le (by simp)) (fun k hk acc => by simp [turnC, run, start, sSeq, sSet, sNil, sExpr, sRet, sRetN, sIf, sNo, sPut, Dn.sFld, Dn.sFldAdd, sAug, eVar, eC, Dn.e1, Dn.e2, aNil, aCons, eTup, eLst, eCall, tE, tBl, Dn.tNot, Dn.tAnd, Dn.tOr, Dn.tYes, eIf, eAnd, eOr, eNot, eChain, eB, on1, on2, bLen, fLen, bIsi, fIsi, tyOf, isT, bAll, fAll, bAny, fAny, bStr, fStr, bInt, fInt, bAbs, fAbs, bMin, fMin, bTuple, fTuple, bList, fList, opAdd, opSub, opMul, opDiv, opMod, opPow, opNeg, opItem, opSlice, eSlice, oNone, oSome, opAddI, cEq, cNe, cLt, cLe, cGt, cGe, cIn, keyD, truth, deref, Dn.gName, Dn.gNil, Dn.gCons, Dn.gTup, Dn.gStar, R.bind_ok, R.bind_no, R.thenS_ok, R.thenS_no, RS.next_nx, RS.next_rt, RS.next_no, onG_ok, eFld, fget, fput, insOf, setF, eMeth, onIns, eBM, eBM0, tyD, mAppend, mPop, mExtend, mJoin, mFind, Dn.m0, Dn.m1, Dn.m2, eBox, eFrz, eMake, big, wipe, ih k hk]) (by rw [filterMap_some]; exact belows_str _ _ _) (Nat.le_trans z (by decide))
  rw [filterMap_some] at c
  exact c
theorem shown_eq : ∀ (n : Nat) (e : Ex), good e → dep e ≤ n → dep e ≤ 9 → ∀ h : Hh, A_shown n [toD e] h = .ok (.str (shw e)) h
  | 0, e, g, hd, _, h => by cases e <;> simp [dep] at hd
  | n + 1, e, g, hd, h9, h => by
    have ih : ∀ k ∈ kids e, ∀ h : Hh, A_shown n [toD k] h = .ok (.str (shw k)) h := fun k hk h => shown_eq n k (good_kids g hk) (by have := dep_kids hk; omega) (by have := dep_kids hk; omega) h
    have kb : ∀ k ∈ kids e, (shw k).length ≤ 4000000 := fun k hk => shw_big (good_kids g hk) (by have := dep_kids hk; omega)
    have x : run 4 (g_l_shown (A_shown n)) [toD e] h = .ok (.str (shw e)) h := by
      unfold g_l_shown
      cases e with
      | num m =>
        have zz : m < 2 ^ 1900 := Nat.lt_of_le_of_lt (show m ≤ 1000000000000 from g) (by decide +kernel)
        have zb : ∀ hh : Hh, fStr (.int (m : Int)) hh = .ok (.str (natT m)) hh := fun hh => by
          show (if ((m : Int)).natAbs < 2 ^ 1900 then R.ok (D.str (intT m)) hh else R.no) = _
          rw [Int.natAbs_natCast, if_pos zz]
          unfold intT
          rw [if_neg (by omega), Int.natAbs_natCast]
        simp [run, start, sSeq, sSet, sNil, sExpr, sRet, sRetN, sIf, sNo, sPut, Dn.sFld, Dn.sFldAdd, sAug, eVar, eC, Dn.e1, Dn.e2, aNil, aCons, eTup, eLst, eCall, tE, tBl, Dn.tNot, Dn.tAnd, Dn.tOr, Dn.tYes, eIf, eAnd, eOr, eNot, eChain, eB, on1, on2, bLen, fLen, bIsi, fIsi, tyOf, isT, bAll, fAll, bAny, fAny, bStr, bInt, fInt, bAbs, fAbs, bMin, fMin, bTuple, fTuple, bList, fList, opAdd, opSub, opMul, opDiv, opMod, opPow, opNeg, opItem, opSlice, eSlice, oNone, oSome, opAddI, cEq, cNe, cLt, cLe, cGt, cGe, cIn, keyD, truth, deref, Dn.gName, Dn.gNil, Dn.gCons, Dn.gTup, Dn.gStar, R.bind_ok, R.bind_no, R.thenS_ok, R.thenS_no, RS.next_nx, RS.next_rt, RS.next_no, onG_ok, eFld, fget, fput, insOf, setF, eMeth, onIns, eBM, eBM0, tyD, mAppend, mPop, mExtend, mJoin, mFind, Dn.m0, Dn.m1, Dn.m2, eBox, eFrz, eMake, big, toD, shw, eqv_ss, eqv_ii, eqv_bb, eqv_tt, eqv_ll, eqv_ts, eqv_st, eqvL_nn, eqvL_nc, eqvL_cn, eqvL_cc, S_beq, atIx, ixN, isData0, zb]
      | txt t =>
        have g1 : textOk t = true := g
        simp [textOk] at g1
        have a1 : ∀ hh : Hh, opAdd (.str (S "\"")) (.str (t)) hh = .ok (.str (S "\"" ++ t)) hh := fun hh => add_str _ _ hh (by simp only [q_lp, q_rp, q_sp, q_lb, q_rb, q_dq, q_cs, List.length_append, List.length_cons, List.length_nil, big]; omega)
        have a2 : ∀ hh : Hh, opAdd (.str (S "\"" ++ t)) (.str (S "\"")) hh = .ok (.str (S "\"" ++ t ++ S "\"")) hh := fun hh => add_str _ _ hh (by simp only [q_lp, q_rp, q_sp, q_lb, q_rb, q_dq, q_cs, List.length_append, List.length_cons, List.length_nil, big]; omega)
        simp [run, start, sSeq, sSet, sNil, sExpr, sRet, sRetN, sIf, sNo, sPut, Dn.sFld, Dn.sFldAdd, sAug, eVar, eC, Dn.e1, Dn.e2, aNil, aCons, eTup, eLst, eCall, tE, tBl, Dn.tNot, Dn.tAnd, Dn.tOr, Dn.tYes, eIf, eAnd, eOr, eNot, eChain, eB, on1, on2, bLen, fLen, bIsi, fIsi, tyOf, isT, bAll, fAll, bAny, fAny, bStr, fStr, bInt, fInt, bAbs, fAbs, bMin, fMin, bTuple, fTuple, bList, fList, opSub, opMul, opDiv, opMod, opPow, opNeg, opItem, opSlice, eSlice, oNone, oSome, opAddI, cEq, cNe, cLt, cLe, cGt, cGe, cIn, keyD, truth, deref, Dn.gName, Dn.gNil, Dn.gCons, Dn.gTup, Dn.gStar, R.bind_ok, R.bind_no, R.thenS_ok, R.thenS_no, RS.next_nx, RS.next_rt, RS.next_no, onG_ok, eFld, fget, fput, insOf, setF, eMeth, onIns, eBM, eBM0, tyD, mAppend, mPop, mExtend, mJoin, mFind, Dn.m0, Dn.m1, Dn.m2, eBox, eFrz, eMake, big, toD, shw, eqv_ss, eqv_ii, eqv_bb, eqv_tt, eqv_ll, eqv_ts, eqv_st, eqvL_nn, eqvL_nc, eqvL_cn, eqvL_cc, S_beq, atIx, ixN, isData0, a1, a2, -List.append_assoc]
      | box t =>
        simp [run, start, sSeq, sSet, sNil, sExpr, sRet, sRetN, sIf, sNo, sPut, Dn.sFld, Dn.sFldAdd, sAug, eVar, eC, Dn.e1, Dn.e2, aNil, aCons, eTup, eLst, eCall, tE, tBl, Dn.tNot, Dn.tAnd, Dn.tOr, Dn.tYes, eIf, eAnd, eOr, eNot, eChain, eB, on1, on2, bLen, fLen, bIsi, fIsi, tyOf, isT, bAll, fAll, bAny, fAny, bStr, fStr, bInt, fInt, bAbs, fAbs, bMin, fMin, bTuple, fTuple, bList, fList, opAdd, opSub, opMul, opDiv, opMod, opPow, opNeg, opItem, opSlice, eSlice, oNone, oSome, opAddI, cEq, cNe, cLt, cLe, cGt, cGe, cIn, keyD, truth, deref, Dn.gName, Dn.gNil, Dn.gCons, Dn.gTup, Dn.gStar, R.bind_ok, R.bind_no, R.thenS_ok, R.thenS_no, RS.next_nx, RS.next_rt, RS.next_no, onG_ok, eFld, fget, fput, insOf, setF, eMeth, onIns, eBM, eBM0, tyD, mAppend, mPop, mExtend, mJoin, mFind, Dn.m0, Dn.m1, Dn.m2, eBox, eFrz, eMake, big, toD, shw, eqv_ss, eqv_ii, eqv_bb, eqv_tt, eqv_ll, eqv_ts, eqv_st, eqvL_nn, eqvL_nc, eqvL_cn, eqvL_cc, S_beq, atIx, ixN, isData0]
      | two op a b =>
        obtain ⟨_, _, c1, c2, c3, c4, c5, c6, ol⟩ := op_facts g.1
        have c7 := op_more g.1
        have b1 := kb a (by simp [kids])
        have b2 := kb b (by simp [kids])
        have c' := shown_comp n [a, b] op h (some (.str op)) none (fun k hk => ih k (by simpa [kids] using hk)) (by simp)
        simp only [List.map_cons, List.map_nil] at c'
        have ce : ∀ hh : Hh, cEq (.lst [.str (shw a), .str (shw b)]) (.lst []) hh = .ok (.bl false) hh := fun hh => rfl
        have a1 : ∀ hh : Hh, opAdd (.str (S "(")) (.str (shw a)) hh = .ok (.str (S "(" ++ shw a)) hh := fun hh => add_str _ _ hh (by simp only [q_lp, q_rp, q_sp, q_lb, q_rb, q_dq, q_cs, List.length_append, List.length_cons, List.length_nil, big]; omega)
        have a2 : ∀ hh : Hh, opAdd (.str (S "(" ++ shw a)) (.str (S " ")) hh = .ok (.str (S "(" ++ shw a ++ S " ")) hh := fun hh => add_str _ _ hh (by simp only [q_lp, q_rp, q_sp, q_lb, q_rb, q_dq, q_cs, List.length_append, List.length_cons, List.length_nil, big]; omega)
        have a3 : ∀ hh : Hh, opAdd (.str (S "(" ++ shw a ++ S " ")) (.str (op)) hh = .ok (.str (S "(" ++ shw a ++ S " " ++ op)) hh := fun hh => add_str _ _ hh (by simp only [q_lp, q_rp, q_sp, q_lb, q_rb, q_dq, q_cs, List.length_append, List.length_cons, List.length_nil, big]; omega)
        have a4 : ∀ hh : Hh, opAdd (.str (S "(" ++ shw a ++ S " " ++ op)) (.str (S " ")) hh = .ok (.str (S "(" ++ shw a ++ S " " ++ op ++ S " ")) hh := fun hh => add_str _ _ hh (by simp only [q_lp, q_rp, q_sp, q_lb, q_rb, q_dq, q_cs, List.length_append, List.length_cons, List.length_nil, big]; omega)
        have a5 : ∀ hh : Hh, opAdd (.str (S "(" ++ shw a ++ S " " ++ op ++ S " ")) (.str (shw b)) hh = .ok (.str (S "(" ++ shw a ++ S " " ++ op ++ S " " ++ shw b)) hh := fun hh => add_str _ _ hh (by simp only [q_lp, q_rp, q_sp, q_lb, q_rb, q_dq, q_cs, List.length_append, List.length_cons, List.length_nil, big]; omega)
        have a6 : ∀ hh : Hh, opAdd (.str (S "(" ++ shw a ++ S " " ++ op ++ S " " ++ shw b)) (.str (S ")")) hh = .ok (.str (S "(" ++ shw a ++ S " " ++ op ++ S " " ++ shw b ++ S ")")) hh := fun hh => add_str _ _ hh (by simp only [q_lp, q_rp, q_sp, q_lb, q_rb, q_dq, q_cs, List.length_append, List.length_cons, List.length_nil, big]; omega)
        simp [run, start, sSeq, sSet, sNil, sExpr, sRet, sRetN, sIf, sNo, sPut, Dn.sFld, Dn.sFldAdd, sAug, eVar, eC, Dn.e1, Dn.e2, aNil, aCons, eTup, eLst, eCall, tE, tBl, Dn.tNot, Dn.tAnd, Dn.tOr, Dn.tYes, eIf, eAnd, eOr, eNot, eChain, eB, on1, on2, bLen, fLen, bIsi, fIsi, tyOf, isT, bAll, fAll, bAny, fAny, bStr, fStr, bInt, fInt, bAbs, fAbs, bMin, fMin, bTuple, fTuple, bList, fList, opSub, opMul, opDiv, opMod, opPow, opNeg, opItem, opSlice, eSlice, oNone, oSome, opAddI, cNe, cLt, cLe, cGt, cGe, keyD, truth, deref, Dn.gName, Dn.gNil, Dn.gCons, Dn.gTup, Dn.gStar, R.bind_ok, R.bind_no, R.thenS_ok, R.thenS_no, RS.next_nx, RS.next_rt, RS.next_no, onG_ok, eFld, fget, fput, insOf, setF, eMeth, onIns, eBM, eBM0, tyD, mAppend, mPop, mExtend, mJoin, mFind, Dn.m0, Dn.m1, Dn.m2, eBox, eFrz, eMake, big, toD, c3, c4, c5, c6, c7, c', ce, atIx, ixN, a1, a2, a3, a4, a5, a6, shw, -List.append_assoc]
      | cell x a =>
        have b1 := kb a (by simp [kids])
        have nl := (nameOk_len g.1).2
        have i1 := ih a (by simp [kids])
        have a1 : ∀ hh : Hh, opAdd (.str (S "[")) (.str (shw a)) hh = .ok (.str (S "[" ++ shw a)) hh := fun hh => add_str _ _ hh (by simp only [q_lp, q_rp, q_sp, q_lb, q_rb, q_dq, q_cs, List.length_append, List.length_cons, List.length_nil, big]; omega)
        have a2 : ∀ hh : Hh, opAdd (.str (S "[" ++ shw a)) (.str (S "]")) hh = .ok (.str (S "[" ++ shw a ++ S "]")) hh := fun hh => add_str _ _ hh (by simp only [q_lp, q_rp, q_sp, q_lb, q_rb, q_dq, q_cs, List.length_append, List.length_cons, List.length_nil, big]; omega)
        have b1 : ∀ hh : Hh, opAdd (.str (S "(")) (.str (shw a)) hh = .ok (.str (S "(" ++ shw a)) hh := fun hh => add_str _ _ hh (by simp only [q_lp, q_rp, q_sp, q_lb, q_rb, q_dq, q_cs, List.length_append, List.length_cons, List.length_nil, big]; omega)
        have b2 : ∀ hh : Hh, opAdd (.str (S "(" ++ shw a)) (.str (S ")")) hh = .ok (.str (S "(" ++ shw a ++ S ")")) hh := fun hh => add_str _ _ hh (by simp only [q_lp, q_rp, q_sp, q_lb, q_rb, q_dq, q_cs, List.length_append, List.length_cons, List.length_nil, big]; omega)
        have a3 : ∀ hh : Hh, opAdd (.str x) (.str (S "[" ++ shw a ++ S "]")) hh = .ok (.str (x ++ (S "[" ++ shw a ++ S "]"))) hh := fun hh => add_str _ _ hh (by simp only [q_lp, q_rp, q_sp, q_lb, q_rb, q_dq, q_cs, List.length_append, List.length_cons, List.length_nil, big]; omega)
        simp [run, start, sSeq, sSet, sNil, sExpr, sRet, sRetN, sIf, sNo, sPut, Dn.sFld, Dn.sFldAdd, sAug, eVar, eC, Dn.e1, Dn.e2, aNil, aCons, eTup, eLst, eCall, tE, tBl, Dn.tNot, Dn.tAnd, Dn.tOr, Dn.tYes, eIf, eAnd, eOr, eNot, eChain, eB, on1, on2, bLen, fLen, bIsi, fIsi, tyOf, isT, bAll, fAll, bAny, fAny, bStr, fStr, bInt, fInt, bAbs, fAbs, bMin, fMin, bTuple, fTuple, bList, fList, opSub, opMul, opDiv, opMod, opPow, opNeg, opItem, opSlice, eSlice, oNone, oSome, opAddI, cEq, cNe, cLt, cLe, cGt, cGe, cIn, keyD, truth, deref, Dn.gName, Dn.gNil, Dn.gCons, Dn.gTup, Dn.gStar, R.bind_ok, R.bind_no, R.thenS_ok, R.thenS_no, RS.next_nx, RS.next_rt, RS.next_no, onG_ok, eFld, fget, fput, insOf, setF, eMeth, onIns, eBM, eBM0, tyD, mAppend, mPop, mExtend, mJoin, mFind, Dn.m0, Dn.m1, Dn.m2, eBox, eFrz, eMake, big, toD, eqv_ss, eqv_ii, eqv_bb, eqv_tt, eqv_ll, eqv_ts, eqv_st, eqvL_nn, eqvL_nc, eqvL_cn, eqvL_cc, flatD, S_beq, isData0, i1, atIx, ixN, a1, a2, a3, b1, b2, shw, -List.append_assoc]
        simp
      | fit x a =>
        have b1 := kb a (by simp [kids])
        have nl := (nameOk_len g.1).2
        have i1 := ih a (by simp [kids])
        have a1 : ∀ hh : Hh, opAdd (.str (S "[")) (.str (shw a)) hh = .ok (.str (S "[" ++ shw a)) hh := fun hh => add_str _ _ hh (by simp only [q_lp, q_rp, q_sp, q_lb, q_rb, q_dq, q_cs, List.length_append, List.length_cons, List.length_nil, big]; omega)
        have a2 : ∀ hh : Hh, opAdd (.str (S "[" ++ shw a)) (.str (S "]")) hh = .ok (.str (S "[" ++ shw a ++ S "]")) hh := fun hh => add_str _ _ hh (by simp only [q_lp, q_rp, q_sp, q_lb, q_rb, q_dq, q_cs, List.length_append, List.length_cons, List.length_nil, big]; omega)
        have b1 : ∀ hh : Hh, opAdd (.str (S "(")) (.str (shw a)) hh = .ok (.str (S "(" ++ shw a)) hh := fun hh => add_str _ _ hh (by simp only [q_lp, q_rp, q_sp, q_lb, q_rb, q_dq, q_cs, List.length_append, List.length_cons, List.length_nil, big]; omega)
        have b2 : ∀ hh : Hh, opAdd (.str (S "(" ++ shw a)) (.str (S ")")) hh = .ok (.str (S "(" ++ shw a ++ S ")")) hh := fun hh => add_str _ _ hh (by simp only [q_lp, q_rp, q_sp, q_lb, q_rb, q_dq, q_cs, List.length_append, List.length_cons, List.length_nil, big]; omega)
        have a3 : ∀ hh : Hh, opAdd (.str x) (.str (S "(" ++ shw a ++ S ")")) hh = .ok (.str (x ++ (S "(" ++ shw a ++ S ")"))) hh := fun hh => add_str _ _ hh (by simp only [q_lp, q_rp, q_sp, q_lb, q_rb, q_dq, q_cs, List.length_append, List.length_cons, List.length_nil, big]; omega)
        simp [run, start, sSeq, sSet, sNil, sExpr, sRet, sRetN, sIf, sNo, sPut, Dn.sFld, Dn.sFldAdd, sAug, eVar, eC, Dn.e1, Dn.e2, aNil, aCons, eTup, eLst, eCall, tE, tBl, Dn.tNot, Dn.tAnd, Dn.tOr, Dn.tYes, eIf, eAnd, eOr, eNot, eChain, eB, on1, on2, bLen, fLen, bIsi, fIsi, tyOf, isT, bAll, fAll, bAny, fAny, bStr, fStr, bInt, fInt, bAbs, fAbs, bMin, fMin, bTuple, fTuple, bList, fList, opSub, opMul, opDiv, opMod, opPow, opNeg, opItem, opSlice, eSlice, oNone, oSome, opAddI, cEq, cNe, cLt, cLe, cGt, cGe, cIn, keyD, truth, deref, Dn.gName, Dn.gNil, Dn.gCons, Dn.gTup, Dn.gStar, R.bind_ok, R.bind_no, R.thenS_ok, R.thenS_no, RS.next_nx, RS.next_rt, RS.next_no, onG_ok, eFld, fget, fput, insOf, setF, eMeth, onIns, eBM, eBM0, tyD, mAppend, mPop, mExtend, mJoin, mFind, Dn.m0, Dn.m1, Dn.m2, eBox, eFrz, eMake, big, toD, eqv_ss, eqv_ii, eqv_bb, eqv_tt, eqv_ll, eqv_ts, eqv_st, eqvL_nn, eqvL_nc, eqvL_cn, eqvL_cc, flatD, S_beq, isData0, i1, atIx, ixN, a1, a2, a3, b1, b2, shw, -List.append_assoc]
        simp
      | one w a =>
        have b1 := kb a (by simp [kids])
        have wl : w.length ≤ 4 := by
          have g1 := g.1
          simp only [W1, List.mem_cons, List.not_mem_nil, or_false] at g1
          rcases g1 with rfl | rfl <;> decide
        have c' := shown_comp n [a] w h (some (.str w)) none (fun k hk => ih k (by simpa [kids] using hk)) (by simp)
        simp only [List.map_cons, List.map_nil] at c'
        have a1 : ∀ hh : Hh, opAdd (.str (w)) (.str (S "(")) hh = .ok (.str (w ++ S "(")) hh := fun hh => add_str _ _ hh (by simp only [q_lp, q_rp, q_sp, q_lb, q_rb, q_dq, q_cs, List.length_append, List.length_cons, List.length_nil, big]; omega)
        have a2 : ∀ hh : Hh, opAdd (.str (w ++ S "(")) (.str (shw a)) hh = .ok (.str (w ++ S "(" ++ shw a)) hh := fun hh => add_str _ _ hh (by simp only [q_lp, q_rp, q_sp, q_lb, q_rb, q_dq, q_cs, List.length_append, List.length_cons, List.length_nil, big]; omega)
        have a3 : ∀ hh : Hh, opAdd (.str (w ++ S "(" ++ shw a)) (.str (S ")")) hh = .ok (.str (w ++ S "(" ++ shw a ++ S ")")) hh := fun hh => add_str _ _ hh (by simp only [q_lp, q_rp, q_sp, q_lb, q_rb, q_dq, q_cs, List.length_append, List.length_cons, List.length_nil, big]; omega)
        have j : ∀ hh : Hh, fJoin (.str (S ", ")) (.lst [.str (shw a)]) hh = .ok (.str (shw a)) hh := fun hh => join_eq _ _ [shw a] hh rfl (by simp [q_cs, big]; omega)
        have g1 := g.1
        simp only [W1, List.mem_cons, List.not_mem_nil, or_false] at g1
        rcases g1 with rfl | rfl <;> simp [run, start, sSeq, sSet, sNil, sExpr, sRet, sRetN, sIf, sNo, sPut, Dn.sFld, Dn.sFldAdd, sAug, eVar, eC, Dn.e1, Dn.e2, aNil, aCons, eTup, eLst, eCall, tE, tBl, Dn.tNot, Dn.tAnd, Dn.tOr, Dn.tYes, eIf, eAnd, eOr, eNot, eChain, eB, on1, on2, bLen, fLen, bIsi, fIsi, tyOf, isT, bAll, fAll, bAny, fAny, bStr, fStr, bInt, fInt, bAbs, fAbs, bMin, fMin, bTuple, fTuple, bList, fList, opSub, opMul, opDiv, opMod, opPow, opNeg, opItem, opSlice, eSlice, oNone, oSome, opAddI, cEq, cNe, cLt, cLe, cGt, cGe, cIn, keyD, truth, deref, Dn.gName, Dn.gNil, Dn.gCons, Dn.gTup, Dn.gStar, R.bind_ok, R.bind_no, R.thenS_ok, R.thenS_no, RS.next_nx, RS.next_rt, RS.next_no, onG_ok, eFld, fget, fput, insOf, setF, eMeth, onIns, eBM, eBM0, tyD, mAppend, mPop, mExtend, mJoin, mFind, Dn.m0, Dn.m1, Dn.m2, eBox, eFrz, eMake, big, toD, eqv_ss, eqv_ii, eqv_bb, eqv_tt, eqv_ll, eqv_ts, eqv_st, eqvL_nn, eqvL_nc, eqvL_cn, eqvL_cc, flatD, S_beq, isData0, isDataE, isDataS, isDataS3, c', atIx, ixN, a1, a2, a3, j, shw, -List.append_assoc]
      | part x y z =>
        have b1 := kb x (by simp [kids])
        have b2 := kb y (by simp [kids])
        have b3 := kb z (by simp [kids])
        have c' := shown_comp n [x, y, z] (S "part") h (some (.str (S "part"))) none (fun k hk => ih k (by simpa [kids] using hk)) (by simp)
        simp only [List.map_cons, List.map_nil] at c'
        have l4 : (S "part").length = 4 := by decide
        have a1 : ∀ hh : Hh, opAdd (.str (S "part")) (.str (S "(")) hh = .ok (.str (S "part" ++ S "(")) hh := fun hh => add_str _ _ hh (by decide)
        have a2 : ∀ hh : Hh, opAdd (.str (S "part" ++ S "(")) (.str (shw x ++ S ", " ++ (shw y ++ S ", " ++ shw z))) hh = .ok (.str (S "part" ++ S "(" ++ (shw x ++ S ", " ++ (shw y ++ S ", " ++ shw z)))) hh := fun hh => add_str _ _ hh (by simp only [l4, q_lp, q_cs, List.length_append, List.length_cons, List.length_nil, big]; omega)
        have a3 : ∀ hh : Hh, opAdd (.str (S "part" ++ S "(" ++ (shw x ++ S ", " ++ (shw y ++ S ", " ++ shw z)))) (.str (S ")")) hh = .ok (.str (S "part" ++ S "(" ++ (shw x ++ S ", " ++ (shw y ++ S ", " ++ shw z)) ++ S ")")) hh := fun hh => add_str _ _ hh (by simp only [l4, q_lp, q_rp, q_cs, List.length_append, List.length_cons, List.length_nil, big]; omega)
        have j : ∀ hh : Hh, fJoin (.str (S ", ")) (.lst [.str (shw x), .str (shw y), .str (shw z)]) hh = .ok (.str (shw x ++ S ", " ++ (shw y ++ S ", " ++ shw z))) hh := fun hh => join_eq _ _ [shw x, shw y, shw z] hh rfl (by simp [q_cs, big]; omega)
        simp [run, start, sSeq, sSet, sNil, sExpr, sRet, sRetN, sIf, sNo, sPut, Dn.sFld, Dn.sFldAdd, sAug, eVar, eC, Dn.e1, Dn.e2, aNil, aCons, eTup, eLst, eCall, tE, tBl, Dn.tNot, Dn.tAnd, Dn.tOr, Dn.tYes, eIf, eAnd, eOr, eNot, eChain, eB, on1, on2, bLen, fLen, bIsi, fIsi, tyOf, isT, bAll, fAll, bAny, fAny, bStr, fStr, bInt, fInt, bAbs, fAbs, bMin, fMin, bTuple, fTuple, bList, fList, opSub, opMul, opDiv, opMod, opPow, opNeg, opItem, opSlice, eSlice, oNone, oSome, opAddI, cEq, cNe, cLt, cLe, cGt, cGe, cIn, keyD, truth, deref, Dn.gName, Dn.gNil, Dn.gCons, Dn.gTup, Dn.gStar, R.bind_ok, R.bind_no, R.thenS_ok, R.thenS_no, RS.next_nx, RS.next_rt, RS.next_no, onG_ok, eFld, fget, fput, insOf, setF, eMeth, onIns, eBM, eBM0, tyD, mAppend, mPop, mExtend, mJoin, mFind, Dn.m0, Dn.m1, Dn.m2, eBox, eFrz, eMake, big, toD, eqv_ss, eqv_ii, eqv_bb, eqv_tt, eqv_ll, eqv_ts, eqv_st, eqvL_nn, eqvL_nc, eqvL_cn, eqvL_cc, flatD, S_beq, isData0, isDataE, isDataS, isDataS3, c', atIx, ixN, a1, a2, a3, j, shw, -List.append_assoc]
      | alone w =>
        have g1 : w ∈ W0 := g
        have c' := shown_comp n [] w h (some (.str w)) none (fun k hk => by simp at hk) (by simp)
        simp only [List.map_nil] at c'
        simp only [W0, List.mem_cons, List.not_mem_nil, or_false] at g1
        rcases g1 with rfl | rfl <;> simp [run, start, sSeq, sSet, sNil, sExpr, sRet, sRetN, sIf, sNo, sPut, Dn.sFld, Dn.sFldAdd, sAug, eVar, eC, Dn.e1, Dn.e2, aNil, aCons, eTup, eLst, eCall, tE, tBl, Dn.tNot, Dn.tAnd, Dn.tOr, Dn.tYes, eIf, eAnd, eOr, eNot, eChain, eB, on1, on2, bLen, fLen, bIsi, fIsi, tyOf, isT, bAll, fAll, bAny, fAny, bStr, fStr, bInt, fInt, bAbs, fAbs, bMin, fMin, bTuple, fTuple, bList, fList, opSub, opMul, opDiv, opMod, opPow, opNeg, opItem, opSlice, eSlice, oNone, oSome, opAddI, cEq, cNe, cLt, cLe, cGt, cGe, cIn, keyD, truth, deref, Dn.gName, Dn.gNil, Dn.gCons, Dn.gTup, Dn.gStar, R.bind_ok, R.bind_no, R.thenS_ok, R.thenS_no, RS.next_nx, RS.next_rt, RS.next_no, onG_ok, eFld, fget, fput, insOf, setF, eMeth, onIns, eBM, eBM0, tyD, mAppend, mPop, mExtend, mJoin, mFind, Dn.m0, Dn.m1, Dn.m2, eBox, eFrz, eMake, big, toD, eqv_ss, eqv_ii, eqv_bb, eqv_tt, eqv_ll, eqv_ts, eqv_st, eqvL_nn, eqvL_nc, eqvL_cn, eqvL_cc, flatD, S_beq, isData0, isDataE, c', atIx, ixN, shw]
    show trim h _ = _
    rw [x, trim_same]
end Dk75

/-! text Dk75g -/
set_option maxHeartbeats 1000000
set_option Elab.async false
set_option linter.all false
set_option maxRecDepth 100000
set_option autoImplicit false
set_option maxHeartbeats 8000000
/-! k75: runs of signs, kinds of tokens. -/
namespace Dk75
open Dn
theorem atIx_nat {α : Type} (xs : List α) (k : Nat) (h : k < xs.length) : atIx xs (k : Int) = some xs[k] := by
  unfold atIx ixN
  rw [if_pos (by omega), if_pos (by omega)]
  simp [h]
/-- how far a run of these signs goes -/
def runL (p : Tx) : Tx → Nat
  | [] => 0
  | c :: r => if c ∈ p then runL p r + 1 else 0
theorem runL_le (p : Tx) : ∀ t : Tx, runL p t ≤ t.length
  | [] => Nat.le_refl _
  | c :: r => by
    have := runL_le p r
    unfold runL
    split <;> simp <;> omega
def rCond : DT := Dn.tAnd (tBl (e2 cLt (eVar 1) (eB bLen (aCons (eVar 0) aNil)))) (tBl (e2 cIn (e2 opItem (eVar 0) (eVar 1)) (eVar 2)))
def rBody : DS := sAug 1 opAddI (eC (.int 1))
theorem rCond_eq (t p : Tx) (k : Nat) (h : Hh) (hk : k ≤ t.length) : rCond [some (.str t), some (.int k), some (.str p)] h = .ok (decide (0 < runL p (t.drop k))) h := by
  unfold rCond
  by_cases z : k < t.length
  · have e : t.drop k = t[k] :: t.drop (k + 1) := List.drop_eq_getElem_cons z
    have z' : (k : Int) < (t.length : Int) := by omega
    rw [e]
    unfold runL
    have a := atIx_nat t k z
    by_cases c : t[k] ∈ p
    · simp [run, start, sSeq, sSet, sNil, sExpr, sRet, sRetN, sIf, sNo, sPut, Dn.sFld, Dn.sFldAdd, sAug, eVar, eC, Dn.e1, Dn.e2, aNil, aCons, eTup, eLst, eCall, tE, tBl, Dn.tNot, Dn.tAnd, Dn.tOr, Dn.tYes, eIf, eAnd, eOr, eNot, eChain, eB, on1, on2, bLen, fLen, bIsi, fIsi, tyOf, isT, bAll, fAll, bAny, fAny, bStr, fStr, bInt, fInt, bAbs, fAbs, bMin, fMin, bTuple, fTuple, bList, fList, opAdd, opSub, opMul, opDiv, opMod, opPow, opNeg, opItem, opSlice, eSlice, oNone, oSome, opAddI, cEq, cNe, cLt, cLe, cGt, cGe, cIn, keyD, truth, deref, Dn.gName, Dn.gNil, Dn.gCons, Dn.gTup, Dn.gStar, R.bind_ok, R.bind_no, R.thenS_ok, R.thenS_no, RS.next_nx, RS.next_rt, RS.next_no, onG_ok, eFld, fget, fput, insOf, setF, eMeth, onIns, eBM, eBM0, tyD, mAppend, mPop, mExtend, mJoin, mFind, Dn.m0, Dn.m1, Dn.m2, eBox, eFrz, eMake, big, z', a, c]
    · simp [run, start, sSeq, sSet, sNil, sExpr, sRet, sRetN, sIf, sNo, sPut, Dn.sFld, Dn.sFldAdd, sAug, eVar, eC, Dn.e1, Dn.e2, aNil, aCons, eTup, eLst, eCall, tE, tBl, Dn.tNot, Dn.tAnd, Dn.tOr, Dn.tYes, eIf, eAnd, eOr, eNot, eChain, eB, on1, on2, bLen, fLen, bIsi, fIsi, tyOf, isT, bAll, fAll, bAny, fAny, bStr, fStr, bInt, fInt, bAbs, fAbs, bMin, fMin, bTuple, fTuple, bList, fList, opAdd, opSub, opMul, opDiv, opMod, opPow, opNeg, opItem, opSlice, eSlice, oNone, oSome, opAddI, cEq, cNe, cLt, cLe, cGt, cGe, cIn, keyD, truth, deref, Dn.gName, Dn.gNil, Dn.gCons, Dn.gTup, Dn.gStar, R.bind_ok, R.bind_no, R.thenS_ok, R.thenS_no, RS.next_nx, RS.next_rt, RS.next_no, onG_ok, eFld, fget, fput, insOf, setF, eMeth, onIns, eBM, eBM0, tyD, mAppend, mPop, mExtend, mJoin, mFind, Dn.m0, Dn.m1, Dn.m2, eBox, eFrz, eMake, big, z', a, c]
  · have e : t.drop k = [] := List.drop_eq_nil_iff.mpr (by omega)
    have z' : ¬ (k : Int) < (t.length : Int) := by omega
    rw [e]
    simp [run, start, sSeq, sSet, sNil, sExpr, sRet, sRetN, sIf, sNo, sPut, Dn.sFld, Dn.sFldAdd, sAug, eVar, eC, Dn.e1, Dn.e2, aNil, aCons, eTup, eLst, eCall, tE, tBl, Dn.tNot, Dn.tAnd, Dn.tOr, Dn.tYes, eIf, eAnd, eOr, eNot, eChain, eB, on1, on2, bLen, fLen, bIsi, fIsi, tyOf, isT, bAll, fAll, bAny, fAny, bStr, fStr, bInt, fInt, bAbs, fAbs, bMin, fMin, bTuple, fTuple, bList, fList, opAdd, opSub, opMul, opDiv, opMod, opPow, opNeg, opItem, opSlice, eSlice, oNone, oSome, opAddI, cEq, cNe, cLt, cLe, cGt, cGe, cIn, keyD, truth, deref, Dn.gName, Dn.gNil, Dn.gCons, Dn.gTup, Dn.gStar, R.bind_ok, R.bind_no, R.thenS_ok, R.thenS_no, RS.next_nx, RS.next_rt, RS.next_no, onG_ok, eFld, fget, fput, insOf, setF, eMeth, onIns, eBM, eBM0, tyD, mAppend, mPop, mExtend, mJoin, mFind, Dn.m0, Dn.m1, Dn.m2, eBox, eFrz, eMake, big, z', runL]
theorem run_loop (t p : Tx) (h : Hh) : ∀ (m k fuel : Nat), k ≤ t.length → runL p (t.drop k) = m → m < fuel → whileN rCond rBody fuel [some (.str t), some (.int k), some (.str p)] h = .nx [some (.str t), some (.int ((k + m : Nat) : Int)), some (.str p)] h
  | 0, k, 0, _, _, hf => by omega
  | m + 1, k, 0, _, _, hf => by omega
  | 0, k, fuel + 1, hk, hm, _ => by
    rw [whileN_step, rCond_eq t p k h hk, hm]
    rfl
  | m + 1, k, fuel + 1, hk, hm, hf => by
    have z : k < t.length := by
      by_cases z : k < t.length
      · exact z
      · rw [List.drop_eq_nil_iff.mpr (by omega)] at hm
        cases hm
    have e : t.drop k = t[k] :: t.drop (k + 1) := List.drop_eq_getElem_cons z
    have hm2 : runL p (t.drop (k + 1)) = m := by
      rw [e] at hm
      unfold runL at hm
      split at hm
      · omega
      · cases hm
    have ih := run_loop t p h m (k + 1) fuel (by omega) hm2 (by omega)
    rw [whileN_step, rCond_eq t p k h hk, hm]
    have b : rBody [some (.str t), some (.int k), some (.str p)] h = .nx [some (.str t), some (.int ((k + 1 : Nat) : Int)), some (.str p)] h := by
      unfold rBody
      simp [run, start, sSeq, sSet, sNil, sExpr, sRet, sRetN, sIf, sNo, sPut, Dn.sFld, Dn.sFldAdd, sAug, eVar, eC, Dn.e1, Dn.e2, aNil, aCons, eTup, eLst, eCall, tE, tBl, Dn.tNot, Dn.tAnd, Dn.tOr, Dn.tYes, eIf, eAnd, eOr, eNot, eChain, eB, on1, on2, bLen, fLen, bIsi, fIsi, tyOf, isT, bAll, fAll, bAny, fAny, bStr, fStr, bInt, fInt, bAbs, fAbs, bMin, fMin, bTuple, fTuple, bList, fList, opAdd, opSub, opMul, opDiv, opMod, opPow, opNeg, opItem, opSlice, eSlice, oNone, oSome, opAddI, cEq, cNe, cLt, cLe, cGt, cGe, cIn, keyD, truth, deref, Dn.gName, Dn.gNil, Dn.gCons, Dn.gTup, Dn.gStar, R.bind_ok, R.bind_no, R.thenS_ok, R.thenS_no, RS.next_nx, RS.next_rt, RS.next_no, onG_ok, eFld, fget, fput, insOf, setF, eMeth, onIns, eBM, eBM0, tyD, mAppend, mPop, mExtend, mJoin, mFind, Dn.m0, Dn.m1, Dn.m2, eBox, eFrz, eMake, big]
    simp only [R.thenS_ok, Nat.zero_lt_succ, decide_true, if_true, b]
    rw [ih, show k + 1 + m = k + (m + 1) by omega]
noncomputable def A_run_end : Fn := tr 3 g_run_end
theorem run_end_eq (t p : Tx) (k : Nat) (h : Hh) (hk : k ≤ t.length) (hz : t.length ≤ big) : A_run_end [.str t, .int k, .str p] h = .ok (.int ((k + runL p (t.drop k) : Nat) : Int)) h := by
  have x : run 3 g_run_end [.str t, .int k, .str p] h = .ok (.int ((k + runL p (t.drop k) : Nat) : Int)) h := by
    have w := run_loop t p h _ k lots hk rfl (by
      have := runL_le p (t.drop k)
      have : (t.drop k).length ≤ t.length := by simp
      have : big < lots := by decide
      omega)
    have u : g_run_end = sSeq (sWhile lots rCond rBody) (sRet (eVar 1)) := rfl
    rw [u]
    simp [run, start, sSeq, sSet, sNil, sExpr, sRet, sRetN, sIf, sNo, sPut, Dn.sFld, Dn.sFldAdd, sAug, eVar, eC, Dn.e1, Dn.e2, aNil, aCons, eTup, eLst, eCall, tE, tBl, Dn.tNot, Dn.tAnd, Dn.tOr, Dn.tYes, eIf, eAnd, eOr, eNot, eChain, eB, on1, on2, bLen, fLen, bIsi, fIsi, tyOf, isT, bAll, fAll, bAny, fAny, bStr, fStr, bInt, fInt, bAbs, fAbs, bMin, fMin, bTuple, fTuple, bList, fList, opAdd, opSub, opMul, opDiv, opMod, opPow, opNeg, opItem, opSlice, eSlice, oNone, oSome, opAddI, cEq, cNe, cLt, cLe, cGt, cGe, cIn, keyD, truth, deref, Dn.gName, Dn.gNil, Dn.gCons, Dn.gTup, Dn.gStar, R.bind_ok, R.bind_no, R.thenS_ok, R.thenS_no, RS.next_nx, RS.next_rt, RS.next_no, onG_ok, eFld, fget, fput, insOf, setF, eMeth, onIns, eBM, eBM0, tyD, mAppend, mPop, mExtend, mJoin, mFind, Dn.m0, Dn.m1, Dn.m2, eBox, eFrz, eMake, big, sWhile, w]
  show trim h _ = _
  rw [x, trim_same]
noncomputable def A_refuse_unless : Fn := tr 1 g_refuse_unless
theorem refuse_ok (h : Hh) : A_refuse_unless [.bl true] h = .ok .non h := by
  have x : run 1 g_refuse_unless [.bl true] h = .ok .non h := by
    unfold g_refuse_unless
    simp [run, start, sSeq, sSet, sNil, sExpr, sRet, sRetN, sIf, sNo, sPut, Dn.sFld, Dn.sFldAdd, sAug, eVar, eC, Dn.e1, Dn.e2, aNil, aCons, eTup, eLst, eCall, tE, tBl, Dn.tNot, Dn.tAnd, Dn.tOr, Dn.tYes, eIf, eAnd, eOr, eNot, eChain, eB, on1, on2, bLen, fLen, bIsi, fIsi, tyOf, isT, bAll, fAll, bAny, fAny, bStr, fStr, bInt, fInt, bAbs, fAbs, bMin, fMin, bTuple, fTuple, bList, fList, opAdd, opSub, opMul, opDiv, opMod, opPow, opNeg, opItem, opSlice, eSlice, oNone, oSome, opAddI, cEq, cNe, cLt, cLe, cGt, cGe, cIn, keyD, truth, deref, Dn.gName, Dn.gNil, Dn.gCons, Dn.gTup, Dn.gStar, R.bind_ok, R.bind_no, R.thenS_ok, R.thenS_no, RS.next_nx, RS.next_rt, RS.next_no, onG_ok, eFld, fget, fput, insOf, setF, eMeth, onIns, eBM, eBM0, tyD, mAppend, mPop, mExtend, mJoin, mFind, Dn.m0, Dn.m1, Dn.m2, eBox, eFrz, eMake, big]
  have y : A_refuse_unless [.bl true] h = trim h (run 1 g_refuse_unless [.bl true] h) := rfl
  rw [y, x, trim_same]
theorem runL_app (p a b : Tx) (ha : ∀ c ∈ a, c ∈ p) (hb : ∀ c ∈ b.head?, c ∉ p) : runL p (a ++ b) = a.length := by
  induction a with
  | nil =>
    cases b with
    | nil => rfl
    | cons c b =>
      have := hb c (by simp)
      simp [runL, this]
  | cons c a ih =>
    have h1 := ha c (by simp)
    have h2 := ih (fun d hd => ha d (List.mem_cons_of_mem _ hd))
    show (if c ∈ p then runL p (a ++ b) + 1 else 0) = _
    rw [if_pos h1, h2]
    rfl
noncomputable def A_kind_at : Fn := tr 4 (g_kind_at A_run_end A_refuse_unless A_is_plain)
def LET : Tx := S "abcdefghijklmnopqrstuvwxyz"
def FIG : Tx := S "0123456789"
def SGN : Tx := S "()[],;=+-*/<>"
theorem kind_word (t : Tx) (k : Nat) (h : Hh) (hk : k < t.length) (hz : t.length ≤ big) (c : t[k] ∈ LET) : A_kind_at [.str t, .int k] h = .ok (.tup [.str (S "word"), .int ((k + runL LET (t.drop k) : Nat) : Int)]) h := by
  have r := run_end_eq t LET k h (by omega) hz
  have a := atIx_nat t k hk
  have x : run 4 (g_kind_at A_run_end A_refuse_unless A_is_plain) [.str t, .int k] h = .ok (.tup [.str (S "word"), .int ((k + runL LET (t.drop k) : Nat) : Int)]) h := by
    unfold g_kind_at
    simp only [LET] at c r ⊢
    simp [run, start, sSeq, sSet, sNil, sExpr, sRet, sRetN, sIf, sNo, sPut, Dn.sFld, Dn.sFldAdd, sAug, eVar, eC, Dn.e1, Dn.e2, aNil, aCons, eTup, eLst, eCall, tE, tBl, Dn.tNot, Dn.tAnd, Dn.tOr, Dn.tYes, eIf, eAnd, eOr, eNot, eChain, eB, on1, on2, bLen, fLen, bIsi, fIsi, tyOf, isT, bAll, fAll, bAny, fAny, bStr, fStr, bInt, fInt, bAbs, fAbs, bMin, fMin, bTuple, fTuple, bList, fList, opAdd, opSub, opMul, opDiv, opMod, opPow, opNeg, opItem, opSlice, eSlice, oNone, oSome, opAddI, cEq, cNe, cLt, cLe, cGt, cGe, cIn, keyD, truth, deref, Dn.gName, Dn.gNil, Dn.gCons, Dn.gTup, Dn.gStar, R.bind_ok, R.bind_no, R.thenS_ok, R.thenS_no, RS.next_nx, RS.next_rt, RS.next_no, onG_ok, eFld, fget, fput, insOf, setF, eMeth, onIns, eBM, eBM0, tyD, mAppend, mPop, mExtend, mJoin, mFind, Dn.m0, Dn.m1, Dn.m2, eBox, eFrz, eMake, big, a, k_LETTERS, c, r]
  show trim h _ = _
  rw [x, trim_same]
theorem kind_fig (t : Tx) (k : Nat) (h : Hh) (hk : k < t.length) (hz : t.length ≤ big) (c0 : t[k] ∉ LET) (c : t[k] ∈ FIG) : A_kind_at [.str t, .int k] h = .ok (.tup [.str (S "figures"), .int ((k + runL FIG (t.drop k) : Nat) : Int)]) h := by
  have r := run_end_eq t FIG k h (by omega) hz
  have a := atIx_nat t k hk
  have x : run 4 (g_kind_at A_run_end A_refuse_unless A_is_plain) [.str t, .int k] h = .ok (.tup [.str (S "figures"), .int ((k + runL FIG (t.drop k) : Nat) : Int)]) h := by
    unfold g_kind_at
    simp only [LET, FIG] at c0 c r ⊢
    simp [run, start, sSeq, sSet, sNil, sExpr, sRet, sRetN, sIf, sNo, sPut, Dn.sFld, Dn.sFldAdd, sAug, eVar, eC, Dn.e1, Dn.e2, aNil, aCons, eTup, eLst, eCall, tE, tBl, Dn.tNot, Dn.tAnd, Dn.tOr, Dn.tYes, eIf, eAnd, eOr, eNot, eChain, eB, on1, on2, bLen, fLen, bIsi, fIsi, tyOf, isT, bAll, fAll, bAny, fAny, bStr, fStr, bInt, fInt, bAbs, fAbs, bMin, fMin, bTuple, fTuple, bList, fList, opAdd, opSub, opMul, opDiv, opMod, opPow, opNeg, opItem, opSlice, eSlice, oNone, oSome, opAddI, cEq, cNe, cLt, cLe, cGt, cGe, cIn, keyD, truth, deref, Dn.gName, Dn.gNil, Dn.gCons, Dn.gTup, Dn.gStar, R.bind_ok, R.bind_no, R.thenS_ok, R.thenS_no, RS.next_nx, RS.next_rt, RS.next_no, onG_ok, eFld, fget, fput, insOf, setF, eMeth, onIns, eBM, eBM0, tyD, mAppend, mPop, mExtend, mJoin, mFind, Dn.m0, Dn.m1, Dn.m2, eBox, eFrz, eMake, big, a, k_LETTERS, k_FIGURES, c0, c, r]
  show trim h _ = _
  rw [x, trim_same]
theorem kind_blank (t : Tx) (k : Nat) (h : Hh) (hk : k < t.length) (hz : t.length ≤ big) (c : t[k] = 32) : A_kind_at [.str t, .int k] h = .ok (.tup [.str (S "blank"), .int ((k + runL [32] (t.drop k) : Nat) : Int)]) h := by
  have r := run_end_eq t [32] k h (by omega) hz
  have a := atIx_nat t k hk
  have c0 : (32 : Nat) ∉ S "abcdefghijklmnopqrstuvwxyz" := by decide
  have c1 : (32 : Nat) ∉ S "0123456789" := by decide
  have q : S " " = [32] := by decide
  have x : run 4 (g_kind_at A_run_end A_refuse_unless A_is_plain) [.str t, .int k] h = .ok (.tup [.str (S "blank"), .int ((k + runL [32] (t.drop k) : Nat) : Int)]) h := by
    unfold g_kind_at
    simp [run, start, sSeq, sSet, sNil, sExpr, sRet, sRetN, sIf, sNo, sPut, Dn.sFld, Dn.sFldAdd, sAug, eVar, eC, Dn.e1, Dn.e2, aNil, aCons, eTup, eLst, eCall, tE, tBl, Dn.tNot, Dn.tAnd, Dn.tOr, Dn.tYes, eIf, eAnd, eOr, eNot, eChain, eB, on1, on2, bLen, fLen, bIsi, fIsi, tyOf, isT, bAll, fAll, bAny, fAny, bStr, fStr, bInt, fInt, bAbs, fAbs, bMin, fMin, bTuple, fTuple, bList, fList, opAdd, opSub, opMul, opDiv, opMod, opPow, opNeg, opItem, opSlice, eSlice, oNone, oSome, opAddI, cEq, cNe, cLt, cLe, cGt, cGe, cIn, keyD, truth, deref, Dn.gName, Dn.gNil, Dn.gCons, Dn.gTup, Dn.gStar, R.bind_ok, R.bind_no, R.thenS_ok, R.thenS_no, RS.next_nx, RS.next_rt, RS.next_no, onG_ok, eFld, fget, fput, insOf, setF, eMeth, onIns, eBM, eBM0, tyD, mAppend, mPop, mExtend, mJoin, mFind, Dn.m0, Dn.m1, Dn.m2, eBox, eFrz, eMake, big, a, k_LETTERS, k_FIGURES, c, c0, c1, r, q, eqv_ss, eqv_ii, eqv_bb, eqv_tt, eqv_ll, eqv_ts, eqv_st, eqvL_nn, eqvL_nc, eqvL_cn, eqvL_cc, isData]
  show trim h _ = _
  rw [x, trim_same]
theorem kind_sign (t : Tx) (k : Nat) (h : Hh) (hk : k < t.length) (c : t[k] ∈ SGN) : A_kind_at [.str t, .int k] h = .ok (.tup [.str (S "sign"), .int ((k + 1 : Nat) : Int)]) h := by
  have a := atIx_nat t k hk
  have all : ∀ q ∈ SGN, q ∉ S "abcdefghijklmnopqrstuvwxyz" ∧ q ∉ S "0123456789" ∧ ([q] == [32]) = false := by decide
  obtain ⟨c0, c1, c2⟩ := all _ c
  have q : S " " = [32] := by decide
  have x : run 4 (g_kind_at A_run_end A_refuse_unless A_is_plain) [.str t, .int k] h = .ok (.tup [.str (S "sign"), .int ((k + 1 : Nat) : Int)]) h := by
    unfold g_kind_at
    simp only [SGN] at c
    have c3 : ¬ t[k] = 32 := fun z => by
      rw [z] at c
      exact absurd c (by decide)
    simp [run, start, sSeq, sSet, sNil, sExpr, sRet, sRetN, sIf, sNo, sPut, Dn.sFld, Dn.sFldAdd, sAug, eVar, eC, Dn.e1, Dn.e2, aNil, aCons, eTup, eLst, eCall, tE, tBl, Dn.tNot, Dn.tAnd, Dn.tOr, Dn.tYes, eIf, eAnd, eOr, eNot, eChain, eB, on1, on2, bLen, fLen, bIsi, fIsi, tyOf, isT, bAll, fAll, bAny, fAny, bStr, fStr, bInt, fInt, bAbs, fAbs, bMin, fMin, bTuple, fTuple, bList, fList, opAdd, opSub, opMul, opDiv, opMod, opPow, opNeg, opItem, opSlice, eSlice, oNone, oSome, opAddI, cEq, cNe, cLt, cLe, cGt, cGe, cIn, keyD, truth, deref, Dn.gName, Dn.gNil, Dn.gCons, Dn.gTup, Dn.gStar, R.bind_ok, R.bind_no, R.thenS_ok, R.thenS_no, RS.next_nx, RS.next_rt, RS.next_no, onG_ok, eFld, fget, fput, insOf, setF, eMeth, onIns, eBM, eBM0, tyD, mAppend, mPop, mExtend, mJoin, mFind, Dn.m0, Dn.m1, Dn.m2, eBox, eFrz, eMake, big, a, k_LETTERS, k_FIGURES, k_SIGNS_tokens, c, c0, c1, c3, q, eqv_ss, eqv_ii, eqv_bb, eqv_tt, eqv_ll, eqv_ts, eqv_st, eqvL_nn, eqvL_nc, eqvL_cn, eqvL_cc, isData]
  show trim h _ = _
  rw [x, trim_same]
end Dk75

/-! text Dk75t -/
set_option maxHeartbeats 1000000
set_option Elab.async false
set_option linter.all false
set_option maxRecDepth 100000
set_option autoImplicit false
set_option maxHeartbeats 8000000
/-! k75: tokens, step by step. -/
namespace Dk75
open Dn
theorem findC_at (c : Nat) (t : Tx) (n m : Nat) (h1 : n ≤ m) (h2 : m < t.length) (h3 : t[m] = c) (h4 : ∀ i (hi : i < t.length), n ≤ i → i < m → t[i] ≠ c) : findC c t 0 n = (m : Int) := by
  have gd : ∀ i (hi : i < t.length), t.getD i 0 = t[i] := fun i hi => by simp [hi]
  rcases findC_spec c t 0 n with ⟨_, f⟩ | ⟨j, e, jl, jn, jc, jm⟩
  · exact absurd ((gd m h2).trans h3) (f m h2 (by omega))
  · rw [e]
    have : j = m := by
      rcases Nat.lt_trichotomy j m with z | z | z
      · exact absurd ((gd j jl).symm.trans jc) (h4 j jl (by omega) z)
      · exact z
      · exact absurd ((gd m h2).trans h3) (jm m z (by omega))
    subst this
    simp
theorem slc_nat {α : Type} (t : List α) (a b : Nat) (h1 : a ≤ b) (h2 : b ≤ t.length) : slc t (some (a : Int)) (some (b : Int)) = (t.drop a).take (b - a) := by
  unfold slc clampI
  simp only
  rw [if_neg (by omega), if_neg (by omega)]
  simp only [Int.toNat_natCast]
  simp only [Nat.min_eq_left h2, Nat.min_eq_left (show a ≤ t.length by omega)]
theorem kind_text (t : Tx) (k m : Nat) (h : Hh) (hk : k < t.length) (hz : t.length ≤ big) (c : t[k] = 34) (h1 : k + 1 ≤ m) (h2 : m < t.length) (h3 : t[m] = 34) (h4 : ∀ i (hi : i < t.length), k + 1 ≤ i → i < m → t[i] ≠ 34) (h5 : ((t.drop (k + 1)).take (m - (k + 1))).all signOk = true) :
    A_kind_at [.str t, .int k] h = .ok (.tup [.str (S "text"), .int ((m + 1 : Nat) : Int)]) h := by
  have a := atIx_nat t k hk
  have q1 : S " " = [32] := by decide
  have q2 : S "\"" = [34] := by decide
  have c0 : (34 : Nat) ∉ S "abcdefghijklmnopqrstuvwxyz" := by decide
  have c1 : (34 : Nat) ∉ S "0123456789" := by decide
  have c2 : (34 : Nat) ∉ S "()[],;=+-*/<>" := by decide
  have f : ∀ hh : Hh, fFind (.str t) (.str [34]) (.int ((k : Int) + 1)) hh = .ok (.int (m : Int)) hh := fun hh => by
    show (if 0 ≤ (k : Int) + 1 ∧ (k : Int) + 1 ≤ (t.length : Int) then R.ok (D.int (findC 34 t 0 ((k : Int) + 1).toNat)) hh else R.no) = _
    rw [if_pos ⟨by omega, by omega⟩, show ((k : Int) + 1).toNat = k + 1 by omega, findC_at 34 t (k + 1) m h1 h2 h3 h4]
  have sl : slc t (some ((k : Int) + 1)) (some (m : Int)) = (t.drop (k + 1)).take (m - (k + 1)) := by
    have := slc_nat t (k + 1) m h1 (by omega)
    push_cast at this
    exact this
  have pl := fun hh : Hh => is_plain_eq ((t.drop (k + 1)).take (m - (k + 1))) hh (by simp; omega)
  simp only [h5] at pl
  have m0 : (0 : Int) < (m : Int) := by omega
  have mm : 0 < m := by omega
  have x : run 4 (g_kind_at A_run_end A_refuse_unless A_is_plain) [.str t, .int k] h = .ok (.tup [.str (S "text"), .int ((m + 1 : Nat) : Int)]) h := by
    unfold g_kind_at
    simp [run, start, sSeq, sSet, sNil, sExpr, sRet, sRetN, sIf, sNo, sPut, Dn.sFld, Dn.sFldAdd, sAug, eVar, eC, Dn.e1, Dn.e2, aNil, aCons, eTup, eLst, eCall, tE, tBl, Dn.tNot, Dn.tAnd, Dn.tOr, Dn.tYes, eIf, eAnd, eOr, eNot, eChain, eB, on1, on2, bLen, fLen, bIsi, fIsi, tyOf, isT, bAll, fAll, bAny, fAny, bStr, fStr, bInt, fInt, bAbs, fAbs, bMin, fMin, bTuple, fTuple, bList, fList, opAdd, opSub, opMul, opDiv, opMod, opPow, opNeg, opItem, opSlice, eSlice, oNone, oSome, opAddI, cEq, cNe, cLt, cLe, cGt, cGe, cIn, keyD, truth, deref, Dn.gName, Dn.gNil, Dn.gCons, Dn.gTup, Dn.gStar, R.bind_ok, R.bind_no, R.thenS_ok, R.thenS_no, RS.next_nx, RS.next_rt, RS.next_no, onG_ok, eFld, fget, fput, insOf, setF, eMeth, onIns, eBM, eBM0, tyD, mAppend, mPop, mExtend, mJoin, mFind, Dn.m0, Dn.m1, Dn.m2, eBox, eFrz, eMake, big, a, k_LETTERS, k_FIGURES, k_SIGNS_tokens, c, c0, c1, c2, q1, q2, eqv_ss, eqv_ii, eqv_bb, eqv_tt, eqv_ll, eqv_ts, eqv_st, eqvL_nn, eqvL_nc, eqvL_cn, eqvL_cc, isData, f, sl, pl, m0, mm, refuse_ok]
  show trim h _ = _
  rw [x, trim_same]
abbrev Tk := Tx × Tx
def tD (k : Tk) : D := .tup [.str k.1, .str k.2]
noncomputable def A_is_noted : Fn := tr 1 g_is_noted
/-- the first token is no number -/
def okF : List Tk → Prop
  | [] => True
  | f :: _ => f.1 ≠ S "figures"
theorem noted_eq (h : Hh) (f : Tk) (F : List Tk) (ok : f.1 ≠ S "figures") : A_is_noted [.loc h.length] (h ++ [some (.lst ((f :: F).map tD))]) = .ok (.bl false) (h ++ [some (.lst ((f :: F).map tD))]) := by
  have x : run 1 g_is_noted [.loc h.length] (h ++ [some (.lst ((f :: F).map tD))]) = .ok (.bl false) (h ++ [some (.lst ((f :: F).map tD))]) := by
    unfold g_is_noted
    by_cases z : F.length = 1
    · have ne : (f.1 == S "figures") = false := by simpa using ok
      have i0 : (0 : Int) < ((F.length : Int) + 1) := by omega
      simp [run, start, sSeq, sSet, sNil, sExpr, sRet, sRetN, sIf, sNo, sPut, Dn.sFld, Dn.sFldAdd, sAug, eVar, eC, Dn.e1, Dn.e2, aNil, aCons, eTup, eLst, eCall, tE, tBl, Dn.tNot, Dn.tAnd, Dn.tOr, Dn.tYes, eIf, eAnd, eOr, eNot, eChain, eB, on1, on2, bLen, fLen, bIsi, fIsi, tyOf, isT, bAll, fAll, bAny, fAny, bStr, fStr, bInt, fInt, bAbs, fAbs, bMin, fMin, bTuple, fTuple, bList, fList, opAdd, opSub, opMul, opDiv, opMod, opPow, opNeg, opItem, opSlice, eSlice, oNone, oSome, opAddI, cEq, cNe, cLt, cLe, cGt, cGe, cIn, keyD, truth, deref, Dn.gName, Dn.gNil, Dn.gCons, Dn.gTup, Dn.gStar, R.bind_ok, R.bind_no, R.thenS_ok, R.thenS_no, RS.next_nx, RS.next_rt, RS.next_no, onG_ok, eFld, fget, fput, insOf, setF, eMeth, onIns, eBM, eBM0, tyD, mAppend, mPop, mExtend, mJoin, mFind, Dn.m0, Dn.m1, Dn.m2, eBox, eFrz, eMake, big, at_last, z, eqv_ss, eqv_ii, eqv_bb, eqv_tt, eqv_ll, eqv_ts, eqv_st, eqvL_nn, eqvL_nc, eqvL_cn, eqvL_cc, isData, atIx, ixN, tD, ne]
    · have z2 : ¬ ((F.length : Int) + 1 = 2) := by omega
      have z3 : ((F.length : Int) + 1 == 2) = false := by simpa using z2
      simp [run, start, sSeq, sSet, sNil, sExpr, sRet, sRetN, sIf, sNo, sPut, Dn.sFld, Dn.sFldAdd, sAug, eVar, eC, Dn.e1, Dn.e2, aNil, aCons, eTup, eLst, eCall, tE, tBl, Dn.tNot, Dn.tAnd, Dn.tOr, Dn.tYes, eIf, eAnd, eOr, eNot, eChain, eB, on1, on2, bLen, fLen, bIsi, fIsi, tyOf, isT, bAll, fAll, bAny, fAny, bStr, fStr, bInt, fInt, bAbs, fAbs, bMin, fMin, bTuple, fTuple, bList, fList, opAdd, opSub, opMul, opDiv, opMod, opPow, opNeg, opItem, opSlice, eSlice, oNone, oSome, opAddI, cEq, cNe, cLt, cLe, cGt, cGe, cIn, keyD, truth, deref, Dn.gName, Dn.gNil, Dn.gCons, Dn.gTup, Dn.gStar, R.bind_ok, R.bind_no, R.thenS_ok, R.thenS_no, RS.next_nx, RS.next_rt, RS.next_no, onG_ok, eFld, fget, fput, insOf, setF, eMeth, onIns, eBM, eBM0, tyD, mAppend, mPop, mExtend, mJoin, mFind, Dn.m0, Dn.m1, Dn.m2, eBox, eFrz, eMake, big, at_last, eqv_ss, eqv_ii, eqv_bb, eqv_tt, eqv_ll, eqv_ts, eqv_st, eqvL_nn, eqvL_nc, eqvL_cn, eqvL_cc, isData, z2, z3]
  show trim _ _ = _
  rw [x, trim_same]
def tCond : DT := tBl (e2 cLt (eVar 2) (eB bLen (aCons (eVar 0) aNil)))
noncomputable def tBody : DS :=
  (sSeq (sSet (eCall 2 A_kind_at [] (aCons (eVar 0) (aCons (eVar 2) aNil))) (Dn.gTup 2 (Dn.gCons (Dn.gName 3) (Dn.gCons (Dn.gName 4) Dn.gNil))))
  (sSeq (sIf (Dn.tAnd (tBl (e2 cEq (eVar 3) (eC (.str (S "blank"))))) (tE (eCall 1 A_is_noted [] (aCons (eVar 1) aNil))))
  (sSeq (sExpr (eCall 1 A_refuse_unless [] (aCons (eCall 1 A_is_plain [] (aCons (eSlice (eVar 0) (oSome (e2 opAdd (eVar 2) (eC (.int 1)))) oNone) aNil)) aNil)))
  (sRet (e2 opAdd (eFrz (eVar 1)) (eLst (aCons (eTup (aCons (eC (.str (S "note"))) (aCons (eSlice (eVar 0) (oSome (e2 opAdd (eVar 2) (eC (.int 1)))) oNone) aNil))) aNil)))))
  sNil)
  (sSeq (sIf (tBl (e2 cNe (eVar 3) (eC (.str (S "blank")))))
  (sExpr (eBM "list" mAppend (eVar 1) (aCons (eTup (aCons (eVar 3) (aCons (eSlice (eVar 0) (oSome (eVar 2)) (oSome (eVar 4))) aNil))) aNil)))
  sNil)
  (sSet (eVar 4) (Dn.gName 2)))))
theorem tokens_parts : g_tokens A_kind_at A_is_noted A_refuse_unless A_is_plain = sSeq (sIf (Dn.tNot (tE (eB bIsi (aCons (eVar 0) (aCons (eC (.ty "str")) aNil))))) sNo sNil) (sSeq (sSet (eBox (eLst aNil)) (Dn.gName 1)) (sSeq (sSet (eC (.int 0)) (Dn.gName 2)) (sSeq (sWhile lots tCond tBody) (sRet (eFrz (eVar 1)))))) := rfl
abbrev tst (t : Tx) (n k : Nat) (o3 o4 : Option D) : Dn.Env := [some (.str t), some (.loc n), some (.int k), o3, o4]
theorem tCond_eq (t : Tx) (n k : Nat) (o3 o4 : Option D) (h : Hh) : tCond (tst t n k o3 o4) h = .ok (decide (k < t.length)) h := by
  unfold tCond
  simp [run, start, sSeq, sSet, sNil, sExpr, sRet, sRetN, sIf, sNo, sPut, Dn.sFld, Dn.sFldAdd, sAug, eVar, eC, Dn.e1, Dn.e2, aNil, aCons, eTup, eLst, eCall, tE, tBl, Dn.tNot, Dn.tAnd, Dn.tOr, Dn.tYes, eIf, eAnd, eOr, eNot, eChain, eB, on1, on2, bLen, fLen, bIsi, fIsi, tyOf, isT, bAll, fAll, bAny, fAny, bStr, fStr, bInt, fInt, bAbs, fAbs, bMin, fMin, bTuple, fTuple, bList, fList, opAdd, opSub, opMul, opDiv, opMod, opPow, opNeg, opItem, opSlice, eSlice, oNone, oSome, opAddI, cEq, cNe, cLt, cLe, cGt, cGe, cIn, keyD, truth, deref, Dn.gName, Dn.gNil, Dn.gCons, Dn.gTup, Dn.gStar, R.bind_ok, R.bind_no, R.thenS_ok, R.thenS_no, RS.next_nx, RS.next_rt, RS.next_no, onG_ok, eFld, fget, fput, insOf, setF, eMeth, onIns, eBM, eBM0, tyD, mAppend, mPop, mExtend, mJoin, mFind, Dn.m0, Dn.m1, Dn.m2, eBox, eFrz, eMake, big, tst]
/-- a token -/
theorem body_tok (t : Tx) (h : Hh) (k en : Nat) (o3 o4 : Option D) (F : List Tk) (K : Tx) (hb : (K == S "blank") = false) (hk : k ≤ en) (he : en ≤ t.length) (hz : F.length < 10000000) (kd : ∀ hh : Hh, A_kind_at [.str t, .int k] hh = .ok (.tup [.str K, .int en]) hh) :
    tBody (tst t h.length k o3 o4) (h ++ [some (.lst (F.map tD))]) = .nx (tst t h.length en (some (.str K)) (some (.int en))) (h ++ [some (.lst ((F ++ [(K, (t.drop k).take (en - k))]).map tD))]) := by
  have ce : ∀ hh : Hh, cEq (.str K) (.str (S "blank")) hh = .ok (.bl false) hh := fun hh => by
    show (R.ok (D.bl (K == S "blank")) hh : R D) = _
    rw [hb]
  have cn : ∀ hh : Hh, cNe (.str K) (.str (S "blank")) hh = .ok (.bl true) hh := fun hh => by
    show (R.ok (D.bl (!(K == S "blank"))) hh : R D) = _
    rw [hb]
    rfl
  have ap := fun y : D => fAppend_at h (F.map tD) y (by rw [List.length_map]; exact Nat.lt_of_lt_of_le hz (by decide))
  have sl := slc_nat t k en hk he
  unfold tBody
  simp [run, start, sSeq, sSet, sNil, sExpr, sRet, sRetN, sIf, sNo, sPut, Dn.sFld, Dn.sFldAdd, sAug, eVar, eC, Dn.e1, Dn.e2, aNil, aCons, eTup, eLst, eCall, tE, tBl, Dn.tNot, Dn.tAnd, Dn.tOr, Dn.tYes, eIf, eAnd, eOr, eNot, eChain, eB, on1, on2, bLen, fLen, bIsi, fIsi, tyOf, isT, bAll, fAll, bAny, fAny, bStr, fStr, bInt, fInt, bAbs, fAbs, bMin, fMin, bTuple, fTuple, bList, fList, opAdd, opSub, opMul, opDiv, opMod, opPow, opNeg, opItem, opSlice, eSlice, oNone, oSome, opAddI, cLt, cLe, cGt, cGe, cIn, keyD, truth, deref, Dn.gName, Dn.gNil, Dn.gCons, Dn.gTup, Dn.gStar, R.bind_ok, R.bind_no, R.thenS_ok, R.thenS_no, RS.next_nx, RS.next_rt, RS.next_no, onG_ok, eFld, fget, fput, insOf, setF, eMeth, onIns, eBM, eBM0, tyD, mAppend, mPop, mExtend, mJoin, mFind, Dn.m0, Dn.m1, Dn.m2, eBox, eFrz, eMake, big, tst, kd, ce, cn, at_last, ap, sl, tD]
/-- a blank -/
theorem body_blank (t : Tx) (h : Hh) (k en : Nat) (o3 o4 : Option D) (f : Tk) (F : List Tk) (ok : f.1 ≠ S "figures") (kd : ∀ hh : Hh, A_kind_at [.str t, .int k] hh = .ok (.tup [.str (S "blank"), .int en]) hh) :
    tBody (tst t h.length k o3 o4) (h ++ [some (.lst ((f :: F).map tD))]) = .nx (tst t h.length en (some (.str (S "blank"))) (some (.int en))) (h ++ [some (.lst ((f :: F).map tD))]) := by
  have ce : ∀ hh : Hh, cEq (.str (S "blank")) (.str (S "blank")) hh = .ok (.bl true) hh := fun hh => rfl
  have cn : ∀ hh : Hh, cNe (.str (S "blank")) (.str (S "blank")) hh = .ok (.bl false) hh := fun hh => rfl
  have nt := noted_eq h f F ok
  unfold tBody
  simp only [List.map_cons] at nt ⊢
  simp [run, start, sSeq, sSet, sNil, sExpr, sRet, sRetN, sIf, sNo, sPut, Dn.sFld, Dn.sFldAdd, sAug, eVar, eC, Dn.e1, Dn.e2, aNil, aCons, eTup, eLst, eCall, tE, tBl, Dn.tNot, Dn.tAnd, Dn.tOr, Dn.tYes, eIf, eAnd, eOr, eNot, eChain, eB, on1, on2, bLen, fLen, bIsi, fIsi, tyOf, isT, bAll, fAll, bAny, fAny, bStr, fStr, bInt, fInt, bAbs, fAbs, bMin, fMin, bTuple, fTuple, bList, fList, opAdd, opSub, opMul, opDiv, opMod, opPow, opNeg, opItem, opSlice, eSlice, oNone, oSome, opAddI, cLt, cLe, cGt, cGe, cIn, keyD, truth, deref, Dn.gName, Dn.gNil, Dn.gCons, Dn.gTup, Dn.gStar, R.bind_ok, R.bind_no, R.thenS_ok, R.thenS_no, RS.next_nx, RS.next_rt, RS.next_no, onG_ok, eFld, fget, fput, insOf, setF, eMeth, onIns, eBM, eBM0, tyD, mAppend, mPop, mExtend, mJoin, mFind, Dn.m0, Dn.m1, Dn.m2, eBox, eFrz, eMake, big, tst, kd, ce, cn, nt]
end Dk75

/-! text Dk75u -/
set_option maxHeartbeats 1000000
set_option Elab.async false
set_option linter.all false
set_option maxRecDepth 100000
set_option autoImplicit false
set_option maxHeartbeats 8000000
/-! k75: the tokens of a shown expression. -/
namespace Dk75
open Dn
def opK (op : Tx) : Tx := if op ∈ [S "rest", S "and", S "or"] then S "word" else S "sign"
def toks : Ex → List Tk
  | .num n => [(S "figures", natT n)]
  | .txt t => [(S "text", S "\"" ++ t ++ S "\"")]
  | .box x => [(S "word", x)]
  | .two op a b => (S "sign", S "(") :: (toks a ++ (opK op, op) :: (toks b ++ [(S "sign", S ")")]))
  | .cell x a => (S "word", x) :: (S "sign", S "[") :: (toks a ++ [(S "sign", S "]")])
  | .fit x a => (S "word", x) :: (S "sign", S "(") :: (toks a ++ [(S "sign", S ")")])
  | .one w a => (S "word", w) :: (S "sign", S "(") :: (toks a ++ [(S "sign", S ")")])
  | .part a b c => (S "word", S "part") :: (S "sign", S "(") :: (toks a ++ (S "sign", S ",") :: (toks b ++ (S "sign", S ",") :: (toks c ++ [(S "sign", S ")")])))
  | .alone w => [(S "word", w)]
/-- the loop comes from one place to another -/
def Go (t : Tx) (h : Hh) (k : Nat) (F : List Tk) (k' : Nat) (F' : List Tk) : Prop := F.length ≤ k → F'.length ≤ k' ∧ k ≤ k' ∧ ∀ o3 o4 : Option D, ∃ (j : Nat) (o3' o4' : Option D), j ≤ k' - k ∧
  ∀ fuel, whileN tCond tBody (fuel + j) (tst t h.length k o3 o4) (h ++ [some (.lst (F.map tD))]) = whileN tCond tBody fuel (tst t h.length k' o3' o4') (h ++ [some (.lst (F'.map tD))])
theorem Go.refl {t : Tx} {h : Hh} {k : Nat} {F : List Tk} : Go t h k F k F := fun z => ⟨z, Nat.le_refl _, fun o3 o4 => ⟨0, o3, o4, Nat.zero_le _, fun _ => rfl⟩⟩
theorem Go.trans {t : Tx} {h : Hh} {k1 k2 k3 : Nat} {F1 F2 F3 : List Tk} (g : Go t h k1 F1 k2 F2) (g2 : Go t h k2 F2 k3 F3) : Go t h k1 F1 k3 F3 := fun z => by
  obtain ⟨z2, l1, a⟩ := g z
  obtain ⟨z3, l2, b⟩ := g2 z2
  refine ⟨z3, by omega, fun o3 o4 => ?_⟩
  obtain ⟨j, p3, p4, hj, e⟩ := a o3 o4
  obtain ⟨j2, q3, q4, hj2, e2⟩ := b p3 p4
  refine ⟨j2 + j, q3, q4, by omega, fun fuel => ?_⟩
  rw [← Nat.add_assoc, e, e2]
theorem Go.step {t : Tx} {h : Hh} {k k' : Nat} {F F' : List Tk} (hk : k < t.length) (hk' : k < k') (hF : F'.length ≤ F.length + 1)
    (b : F.length ≤ k → ∀ o3 o4 : Option D, ∃ o3' o4' : Option D, tBody (tst t h.length k o3 o4) (h ++ [some (.lst (F.map tD))]) = .nx (tst t h.length k' o3' o4') (h ++ [some (.lst (F'.map tD))])) : Go t h k F k' F' := fun z => by
  refine ⟨by omega, by omega, fun o3 o4 => ?_⟩
  obtain ⟨p3, p4, e⟩ := b z o3 o4
  refine ⟨1, p3, p4, by omega, fun fuel => ?_⟩
  rw [whileN_step, tCond_eq, R.thenS_ok, if_pos (by simpa using hk), e]
theorem at_head {t post : Tx} {k c : Nat} {s : Tx} (e : t.drop k = c :: s ++ post) : ∃ hk : k < t.length, t[k] = c := by
  have hk : k < t.length := by
    by_cases z : k < t.length
    · exact z
    · rw [List.drop_eq_nil_iff.mpr (by omega)] at e
      cases e
  refine ⟨hk, ?_⟩
  rw [List.drop_eq_getElem_cons hk] at e
  exact (List.cons.inj e).1
theorem drop_next {t s post : Tx} {k : Nat} (e : t.drop k = s ++ post) : t.drop (k + s.length) = post := by
  rw [← List.drop_drop, e, List.drop_left]
theorem drop_le {t s post : Tx} {k : Nat} (e : t.drop k = s ++ post) (hk : k ≤ t.length) : k + s.length ≤ t.length := by
  have := congrArg List.length e
  simp at this
  omega
section
variable {t : Tx} {h : Hh} {F : List Tk} (hz : t.length ≤ 5000000)
include hz
theorem go_word {k : Nat} {w post : Tx} (e : t.drop k = w ++ post) (hw : w ≠ []) (all : ∀ c ∈ w, c ∈ LET) (nx : ∀ c ∈ post.head?, c ∉ LET) : Go t h k F (k + w.length) (F ++ [(S "word", w)]) := by
  cases w with
  | nil => exact absurd rfl hw
  | cons c w =>
    obtain ⟨hk, ec⟩ := at_head e
    have le := drop_le e (by omega)
    have r : runL LET (t.drop k) = (c :: w).length := by rw [e]; exact runL_app _ _ _ all nx
    refine Go.step hk (by simp) (by simp) fun z o3 o4 => ⟨some (.str (S "word")), some (.int ((k + (c :: w).length : Nat) : Int)), ?_⟩
    have b := body_tok t h k (k + (c :: w).length) o3 o4 F (S "word") (by decide) (by omega) le (by omega) fun hh => by
      rw [kind_word t k hh hk (Nat.le_trans hz (by decide)) (by rw [ec]; exact all c (by simp)), r]
    rw [b, Nat.add_sub_cancel_left, e, List.take_left]
theorem go_fig {k : Nat} {w post : Tx} (e : t.drop k = w ++ post) (hw : w ≠ []) (all : ∀ c ∈ w, c ∈ FIG) (nx : ∀ c ∈ post.head?, c ∉ FIG) : Go t h k F (k + w.length) (F ++ [(S "figures", w)]) := by
  cases w with
  | nil => exact absurd rfl hw
  | cons c w =>
    obtain ⟨hk, ec⟩ := at_head e
    have le := drop_le e (by omega)
    have r : runL FIG (t.drop k) = (c :: w).length := by rw [e]; exact runL_app _ _ _ all nx
    have nl : ∀ q ∈ FIG, q ∉ LET := by decide
    refine Go.step hk (by simp) (by simp) fun z o3 o4 => ⟨some (.str (S "figures")), some (.int ((k + (c :: w).length : Nat) : Int)), ?_⟩
    have b := body_tok t h k (k + (c :: w).length) o3 o4 F (S "figures") (by decide) (by omega) le (by omega) fun hh => by
      rw [kind_fig t k hh hk (Nat.le_trans hz (by decide)) (by rw [ec]; exact nl c (all c (by simp))) (by rw [ec]; exact all c (by simp)), r]
    rw [b, Nat.add_sub_cancel_left, e, List.take_left]
theorem go_sign {k c : Nat} {post : Tx} (e : t.drop k = [c] ++ post) (hc : c ∈ SGN) : Go t h k F (k + 1) (F ++ [(S "sign", [c])]) := by
  obtain ⟨hk, ec⟩ := at_head e
  refine Go.step hk (by simp) (by simp) fun z o3 o4 => ⟨some (.str (S "sign")), some (.int ((k + 1 : Nat) : Int)), ?_⟩
  have b := body_tok t h k (k + 1) o3 o4 F (S "sign") (by decide) (by omega) (by omega) (by omega) fun hh => kind_sign t k hh hk (by rw [ec]; exact hc)
  rw [b, Nat.add_sub_cancel_left, e]
  rfl
theorem go_blank {k : Nat} {post : Tx} {f : Tk} (e : t.drop k = [32] ++ post) (nx : ∀ c ∈ post.head?, c ≠ 32) (ok : f.1 ≠ S "figures") : Go t h k (f :: F) (k + 1) (f :: F) := by
  obtain ⟨hk, ec⟩ := at_head e
  have r : runL [32] (t.drop k) = 1 := by
    rw [e]
    exact runL_app [32] [32] post (by simp) (by simpa using nx)
  refine Go.step hk (by simp) (by simp) fun z o3 o4 => ⟨some (.str (S "blank")), some (.int ((k + 1 : Nat) : Int)), ?_⟩
  exact body_blank t h k (k + 1) o3 o4 f F ok fun hh => by
    rw [kind_blank t k hh hk (Nat.le_trans hz (by decide)) ec, r]
theorem go_text {k : Nat} {x post : Tx} (e : t.drop k = S "\"" ++ x ++ S "\"" ++ post) (hx : x.all signOk = true) : Go t h k F (k + (S "\"" ++ x ++ S "\"").length) (F ++ [(S "text", S "\"" ++ x ++ S "\"")]) := by
  have e0 : t.drop k = 34 :: (x ++ [34]) ++ post := by rw [e, q_dq]; simp
  obtain ⟨hk, ec⟩ := at_head e0
  have le := drop_le e (by omega)
  have ln : (S "\"" ++ x ++ S "\"").length = x.length + 2 := by rw [q_dq]; simp
  rw [ln] at le ⊢
  have ge : ∀ i (hi : i < t.length), k ≤ i → t[i] = (t.drop k)[i - k]'(by simp; omega) := fun i hi hki => by
    rw [List.getElem_drop]
    congr 1
    omega
  have em : t[k + 1 + x.length]'(by omega) = 34 := by
    rw [ge _ (by omega) (by omega)]
    simp only [e0, show k + 1 + x.length - k = x.length + 1 by omega]
    simp
  have ei : ∀ i (hi : i < t.length), k + 1 ≤ i → i < k + 1 + x.length → t[i] ≠ 34 := fun i hi h1 h2 => by
    rw [ge i hi (by omega)]
    obtain ⟨j, rfl⟩ : ∃ j, i = k + 1 + j := ⟨i - (k + 1), by omega⟩
    have hj : j < x.length := by omega
    simp only [e0, show k + 1 + j - k = j + 1 by omega]
    have s := List.all_eq_true.mp hx x[j] (List.getElem_mem hj)
    simp [signOk] at s
    simp [List.getElem_append, hj, s.2]
  have d1 : (t.drop (k + 1)).take (k + 1 + x.length - (k + 1)) = x := by
    rw [← List.drop_drop, e0, Nat.add_sub_cancel_left]
    simp
  refine Go.step hk (by omega) (by simp) fun z o3 o4 => ⟨some (.str (S "text")), some (.int ((k + (x.length + 2) : Nat) : Int)), ?_⟩
  have b := body_tok t h k (k + (x.length + 2)) o3 o4 F (S "text") (by decide) (by omega) le (by omega) fun hh => by
    have := kind_text t k (k + 1 + x.length) hh hk (Nat.le_trans hz (by decide)) ec (by omega) (by omega) em ei (by rw [d1]; exact hx)
    rw [this, show k + 1 + x.length + 1 = k + (x.length + 2) by omega]
  rw [b, Nat.add_sub_cancel_left]
  have : (t.drop k).take (x.length + 2) = S "\"" ++ x ++ S "\"" := by rw [e, ← ln, List.take_left]
  rw [this]
end
/-- what may follow an expression -/
def free (post : Tx) : Prop := ∀ c ∈ post.head?, c ∉ LET ∧ c ∉ FIG ∧ c ≠ 91 ∧ c ≠ 40
theorem free_ok (c : Nat) (r : Tx) (hc : c = 32 ∨ c = 41 ∨ c = 93 ∨ c = 44) : free (c :: r) := fun q hq => by
  have : q = c := by simpa using hq.symm
  subst this
  rcases hc with rfl | rfl | rfl | rfl <;> decide
theorem LET_iff {c : Nat} : letter c = true ↔ c ∈ LET := by
  unfold letter LET
  exact decide_eq_true_iff
theorem name_let {x : Tx} (h : nameOk x = true) : x ≠ [] ∧ ∀ c ∈ x, c ∈ LET := by
  have l := nameOk_len h
  refine ⟨fun z => by rw [z] at l; simp at l, fun c hc => ?_⟩
  simp only [nameOk, Bool.and_eq_true] at h
  exact LET_iff.mp (List.all_eq_true.mp h.2 c hc)
theorem nat_fig (n : Nat) : natT n ≠ [] ∧ ∀ c ∈ natT n, c ∈ FIG := by
  refine ⟨TL.numL_ne n, fun c hc => ?_⟩
  have r := natT_codes n c hc
  have : ∀ c, 48 ≤ c → c ≤ 57 → c ∈ FIG := by
    intro c h1 h2
    have : c = 48 ∨ c = 49 ∨ c = 50 ∨ c = 51 ∨ c = 52 ∨ c = 53 ∨ c = 54 ∨ c = 55 ∨ c = 56 ∨ c = 57 := by omega
    rcases this with rfl | rfl | rfl | rfl | rfl | rfl | rfl | rfl | rfl | rfl <;> decide
  exact this c r.1 r.2
section
variable {t : Tx} {h : Hh} {F : List Tk}
theorem op_go {op : Tx} (g : op ∈ OPS) {k : Nat} {post : Tx} (hz : t.length ≤ 5000000) (e : t.drop k = op ++ ([32] ++ post)) : Go t h k F (k + op.length) (F ++ [(opK op, op)]) := by
  simp only [OPS, List.mem_cons, List.not_mem_nil, or_false] at g
  have f : free ([32] ++ post) := free_ok 32 post (.inl rfl)
  rcases g with rfl | rfl | rfl | rfl | rfl | rfl | rfl | rfl | rfl | rfl
  · exact go_sign hz (c := 43) e (by decide)
  · exact go_sign hz (c := 45) e (by decide)
  · exact go_sign hz (c := 42) e (by decide)
  · exact go_sign hz (c := 47) e (by decide)
  · exact go_word hz e (by decide) (by decide) fun c hc => (f c hc).1
  · exact go_sign hz (c := 60) e (by decide)
  · exact go_sign hz (c := 61) e (by decide)
  · exact go_sign hz (c := 62) e (by decide)
  · exact go_word hz e (by decide) (by decide) fun c hc => (f c hc).1
  · exact go_word hz e (by decide) (by decide) fun c hc => (f c hc).1
end
/-- a shown expression never begins with a blank -/
theorem shw_head (e : Ex) (g : good e) : ∃ c r, shw e = c :: r ∧ c ≠ 32 := by
  have nm : ∀ {x : Tx}, nameOk x = true → ∃ c r, x = c :: r ∧ c ≠ 32 := fun {x} hx => by
    obtain ⟨ne, all⟩ := name_let hx
    cases x with
    | nil => exact absurd rfl ne
    | cons c r =>
      refine ⟨c, r, rfl, fun z => ?_⟩
      have := all c (by simp)
      rw [z] at this
      exact absurd this (by decide)
  cases e with
  | num n =>
    obtain ⟨ne, all⟩ := nat_fig n
    show ∃ c r, natT n = c :: r ∧ c ≠ 32
    cases e : natT n with
    | nil => exact absurd e ne
    | cons c r =>
      refine ⟨c, r, rfl, fun z => ?_⟩
      have := all c (by rw [e]; simp)
      rw [z] at this
      exact absurd this (by decide)
  | txt t => exact ⟨34, t ++ [34], by simp [shw, q_dq], by decide⟩
  | box x => exact nm g
  | two op a b => exact ⟨40, shw a ++ [32] ++ op ++ [32] ++ shw b ++ [41], by simp [shw, q_lp, q_sp, q_rp], by decide⟩
  | cell x a =>
    obtain ⟨c, r, e, hc⟩ := nm g.1
    exact ⟨c, r ++ [91] ++ shw a ++ [93], by simp [shw, e, q_lb, q_rb], hc⟩
  | fit x a =>
    obtain ⟨c, r, e, hc⟩ := nm g.1
    exact ⟨c, r ++ [40] ++ shw a ++ [41], by simp [shw, e, q_lp, q_rp], hc⟩
  | one w a =>
    have g1 := g.1
    simp only [W1, List.mem_cons, List.not_mem_nil, or_false] at g1
    rcases g1 with rfl | rfl
    · exact ⟨110, [111, 116] ++ S "(" ++ shw a ++ S ")", by simp [shw, S], by decide⟩
    · exact ⟨115, [105, 122, 101] ++ S "(" ++ shw a ++ S ")", by simp [shw, S], by decide⟩
  | part a b c => exact ⟨112, [97, 114, 116] ++ S "(" ++ (shw a ++ S ", " ++ (shw b ++ S ", " ++ shw c)) ++ S ")", by simp [shw, S], by decide⟩
  | alone w =>
    have g1 : w ∈ W0 := g
    simp only [W0, List.mem_cons, List.not_mem_nil, or_false] at g1
    rcases g1 with rfl | rfl
    · exact ⟨119, [104, 121], by decide, by decide⟩
    · exact ⟨119, [104, 101, 114, 101], by decide, by decide⟩
end Dk75

/-! text Dk75v -/
set_option maxHeartbeats 1000000
set_option Elab.async false
set_option linter.all false
set_option maxRecDepth 100000
set_option autoImplicit false
set_option maxHeartbeats 8000000
/-! k75: the tokens of a shown expression, whole. -/
namespace Dk75
open Dn
theorem Go.cast {t : Tx} {h : Hh} {k k' k'' : Nat} {F F' F'' : List Tk} (g : Go t h k F k' F') (e1 : k' = k'') (e2 : F' = F'') : Go t h k F k'' F'' := by
  subst e1 e2
  exact g
theorem okF_app {F : List Tk} {x : Tk} (ok : okF F) (h : x.1 ≠ S "figures") (G : List Tk) : ∃ f F', F ++ x :: G = f :: F' ∧ f.1 ≠ S "figures" := by
  cases F with
  | nil => exact ⟨x, G, rfl, h⟩
  | cons f F => exact ⟨f, F ++ x :: G, rfl, ok⟩
theorem okF_of {F : List Tk} (h : ∃ f F', F = f :: F' ∧ f.1 ≠ S "figures") : okF F := by
  obtain ⟨f, F', rfl, h⟩ := h
  exact h
theorem go_blankN {t : Tx} {h : Hh} {F : List Tk} (hz : t.length ≤ 5000000) {k : Nat} {post : Tx} (e : t.drop k = 32 :: post) (nx : ∀ c ∈ post.head?, c ≠ 32) (ok : ∃ f F', F = f :: F' ∧ f.1 ≠ S "figures") : Go t h k F (k + 1) F := by
  obtain ⟨f, F', rfl, o⟩ := ok
  exact go_blank hz (show t.drop k = [32] ++ post from e) nx o
theorem go_signC {t : Tx} {h : Hh} {F : List Tk} (hz : t.length ≤ 5000000) {k c : Nat} {post : Tx} (e : t.drop k = c :: post) (hc : c ∈ SGN) : Go t h k F (k + 1) (F ++ [(S "sign", [c])]) := go_sign hz (show t.drop k = [c] ++ post from e) hc
theorem drop_c {t post : Tx} {k c : Nat} (e : t.drop k = c :: post) : t.drop (k + 1) = post := drop_next (s := [c]) e
theorem sign_ne : S "sign" ≠ S "figures" := by decide
theorem word_ne : S "word" ≠ S "figures" := by decide
theorem head_ne {x r : Tx} (h : ∃ c s, x = c :: s ∧ c ≠ 32) : ∀ c ∈ (x ++ r).head?, c ≠ 32 := by
  obtain ⟨c, s, rfl, hc⟩ := h
  intro d hd
  have : d = c := by simpa using hd.symm
  rw [this]
  exact hc
theorem op_head {op : Tx} (g : op ∈ OPS) : ∃ c s, op = c :: s ∧ c ≠ 32 := by
  simp only [OPS, List.mem_cons, List.not_mem_nil, or_false] at g
  rcases g with rfl | rfl | rfl | rfl | rfl | rfl | rfl | rfl | rfl | rfl
  · exact ⟨43, [], by decide, by decide⟩
  · exact ⟨45, [], by decide, by decide⟩
  · exact ⟨42, [], by decide, by decide⟩
  · exact ⟨47, [], by decide, by decide⟩
  · exact ⟨114, [101, 115, 116], by decide, by decide⟩
  · exact ⟨60, [], by decide, by decide⟩
  · exact ⟨61, [], by decide, by decide⟩
  · exact ⟨62, [], by decide, by decide⟩
  · exact ⟨97, [110, 100], by decide, by decide⟩
  · exact ⟨111, [114], by decide, by decide⟩
theorem br_let (c : Nat) (hc : c = 91 ∨ c = 40) (r : Tx) : ∀ q ∈ (c :: r).head?, q ∉ LET := fun q hq => by
  have : q = c := by simpa using hq.symm
  subst this
  rcases hc with rfl | rfl <;> decide
theorem go_expr {t : Tx} {h : Hh} (hz : t.length ≤ 5000000) : ∀ (e : Ex), good e → ∀ (k : Nat) (F : List Tk) (post : Tx), okF F → t.drop k = shw e ++ post → free post → Go t h k F (k + (shw e).length) (F ++ toks e)
  | .num n, g, k, F, post, ok, e, fr => go_fig hz e (nat_fig n).1 (nat_fig n).2 fun c hc => (fr c hc).2.1
  | .txt x, g, k, F, post, ok, e, fr => by
    have g1 : textOk x = true := g
    simp only [textOk, Bool.and_eq_true] at g1
    exact go_text hz e g1.2
  | .box x, g, k, F, post, ok, e, fr => go_word hz e (name_let g).1 (name_let g).2 fun c hc => (fr c hc).1
  | .alone w, g, k, F, post, ok, e, fr => by
    have g1 : w ∈ W0 := g
    simp only [W0, List.mem_cons, List.not_mem_nil, or_false] at g1
    have nx : ∀ c ∈ post.head?, c ∉ LET := fun c hc => (fr c hc).1
    rcases g1 with rfl | rfl
    · exact go_word hz e (by decide) (by decide) nx
    · exact go_word hz e (by decide) (by decide) nx
  | .two op a b, g, k, F, post, ok, e, fr => by
    have e1 : t.drop k = 40 :: (shw a ++ (32 :: (op ++ (32 :: (shw b ++ (41 :: post)))))) := by rw [e]; simp [shw, q_lp, q_sp, q_rp]
    have e2 := drop_c e1
    have e3 := drop_next e2
    have e4 := drop_c e3
    have e5 := drop_next e4
    have e6 := drop_c e5
    have e7 := drop_next e6
    have o1 := okF_app (x := (S "sign", [40])) ok sign_ne []
    have o2 := okF_app (x := (S "sign", [40])) ok sign_ne (toks a)
    have o3 := okF_app (x := (S "sign", [40])) ok sign_ne (toks a ++ [(opK op, op)])
    have g1 := go_signC (h := h) (F := F) hz e1 (by decide)
    have g2 := go_expr (h := h) hz a g.2.1 _ (F ++ [(S "sign", [40])]) _ (okF_of o1) e2 (free_ok 32 _ (.inl rfl))
    have g3 := go_blankN (h := h) (F := F ++ [(S "sign", [40])] ++ toks a) hz e3 (head_ne (op_head g.1)) (by simpa using o2)
    have g4 := op_go (h := h) (F := F ++ [(S "sign", [40])] ++ toks a) g.1 hz (show t.drop _ = op ++ ([32] ++ (shw b ++ (41 :: post))) from e4)
    have g5 := go_blankN (h := h) (F := F ++ [(S "sign", [40])] ++ toks a ++ [(opK op, op)]) hz e5 (head_ne (shw_head b g.2.2)) (by simpa using o3)
    have g6 := go_expr (h := h) hz b g.2.2 _ (F ++ [(S "sign", [40])] ++ toks a ++ [(opK op, op)]) _ (okF_of (by simpa using o3)) e6 (free_ok 41 _ (.inr (.inl rfl)))
    have g7 := go_signC (h := h) (F := F ++ [(S "sign", [40])] ++ toks a ++ [(opK op, op)] ++ toks b) hz e7 (by decide)
    exact (g1.trans (g2.trans (g3.trans (g4.trans (g5.trans (g6.trans g7)))))).cast (by simp [shw, q_lp, q_sp, q_rp]; omega) (by simp [toks, q_lp, q_rp])
  | .cell x a, g, k, F, post, ok, e, fr => by
    have e1 : t.drop k = x ++ (91 :: (shw a ++ (93 :: post))) := by rw [e]; simp [shw, q_lb, q_rb]
    have e2 := drop_next e1
    have e3 := drop_c e2
    have e4 := drop_next e3
    have o1 := okF_app (x := (S "word", x)) ok word_ne [(S "sign", [91])]
    have g1 := go_word (h := h) (F := F) hz e1 (name_let g.1).1 (name_let g.1).2 (br_let 91 (.inl rfl) _)
    have g2 := go_signC (h := h) (F := F ++ [(S "word", x)]) hz e2 (by decide)
    have g3 := go_expr (h := h) hz a g.2 _ (F ++ [(S "word", x)] ++ [(S "sign", [91])]) _ (okF_of (by simpa using o1)) e3 (free_ok 93 _ (.inr (.inr (.inl rfl))))
    have g4 := go_signC (h := h) (F := F ++ [(S "word", x)] ++ [(S "sign", [91])] ++ toks a) hz e4 (by decide)
    exact (g1.trans (g2.trans (g3.trans g4))).cast (by simp [shw, q_lb, q_rb]; omega) (by simp [toks, q_lb, q_rb])
  | .fit x a, g, k, F, post, ok, e, fr => by
    have e1 : t.drop k = x ++ (40 :: (shw a ++ (41 :: post))) := by rw [e]; simp [shw, q_lp, q_rp]
    have e2 := drop_next e1
    have e3 := drop_c e2
    have e4 := drop_next e3
    have o1 := okF_app (x := (S "word", x)) ok word_ne [(S "sign", [40])]
    have g1 := go_word (h := h) (F := F) hz e1 (name_let g.1).1 (name_let g.1).2 (br_let 40 (.inr rfl) _)
    have g2 := go_signC (h := h) (F := F ++ [(S "word", x)]) hz e2 (by decide)
    have g3 := go_expr (h := h) hz a g.2 _ (F ++ [(S "word", x)] ++ [(S "sign", [40])]) _ (okF_of (by simpa using o1)) e3 (free_ok 41 _ (.inr (.inl rfl)))
    have g4 := go_signC (h := h) (F := F ++ [(S "word", x)] ++ [(S "sign", [40])] ++ toks a) hz e4 (by decide)
    exact (g1.trans (g2.trans (g3.trans g4))).cast (by simp [shw, q_lp, q_rp]; omega) (by simp [toks, q_lp, q_rp])
  | .one x a, g, k, F, post, ok, e, fr => by
    have e1 : t.drop k = x ++ (40 :: (shw a ++ (41 :: post))) := by rw [e]; simp [shw, q_lp, q_rp]
    have e2 := drop_next e1
    have e3 := drop_c e2
    have e4 := drop_next e3
    have wl : x ≠ [] ∧ ∀ c ∈ x, c ∈ LET := by
      have g1 := g.1
      simp only [W1, List.mem_cons, List.not_mem_nil, or_false] at g1
      rcases g1 with rfl | rfl <;> decide
    have o1 := okF_app (x := (S "word", x)) ok word_ne [(S "sign", [40])]
    have g1 := go_word (h := h) (F := F) hz e1 wl.1 wl.2 (br_let 40 (.inr rfl) _)
    have g2 := go_signC (h := h) (F := F ++ [(S "word", x)]) hz e2 (by decide)
    have g3 := go_expr (h := h) hz a g.2 _ (F ++ [(S "word", x)] ++ [(S "sign", [40])]) _ (okF_of (by simpa using o1)) e3 (free_ok 41 _ (.inr (.inl rfl)))
    have g4 := go_signC (h := h) (F := F ++ [(S "word", x)] ++ [(S "sign", [40])] ++ toks a) hz e4 (by decide)
    exact (g1.trans (g2.trans (g3.trans g4))).cast (by simp [shw, q_lp, q_rp]; omega) (by simp [toks, q_lp, q_rp])
  | .part a b c, g, k, F, post, ok, e, fr => by
    have e1 : t.drop k = S "part" ++ (40 :: (shw a ++ (44 :: (32 :: (shw b ++ (44 :: (32 :: (shw c ++ (41 :: post))))))))) := by rw [e]; simp [shw, q_lp, q_rp, q_cs]
    have e2 := drop_next e1
    have e3 := drop_c e2
    have e4 := drop_next e3
    have e5 := drop_c e4
    have e6 := drop_c e5
    have e7 := drop_next e6
    have e8 := drop_c e7
    have e9 := drop_c e8
    have e10 := drop_next e9
    have o := fun G => okF_app (x := (S "word", S "part")) ok word_ne G
    have g1 := go_word (h := h) (F := F) hz e1 (by decide) (by decide) (br_let 40 (.inr rfl) _)
    have g2 := go_signC (h := h) (F := F ++ [(S "word", S "part")]) hz e2 (by decide)
    have g3 := go_expr (h := h) hz a g.1 _ (F ++ [(S "word", S "part")] ++ [(S "sign", [40])]) _ (okF_of (by simpa using o [(S "sign", [40])])) e3 (free_ok 44 _ (.inr (.inr (.inr rfl))))
    have g4 := go_signC (h := h) (F := F ++ [(S "word", S "part")] ++ [(S "sign", [40])] ++ toks a) hz e4 (by decide)
    have g5 := go_blankN (h := h) (F := F ++ [(S "word", S "part")] ++ [(S "sign", [40])] ++ toks a ++ [(S "sign", [44])]) hz e5 (head_ne (shw_head b g.2.1)) (by simpa using o ((S "sign", [40]) :: (toks a ++ [(S "sign", [44])])))
    have g6 := go_expr (h := h) hz b g.2.1 _ (F ++ [(S "word", S "part")] ++ [(S "sign", [40])] ++ toks a ++ [(S "sign", [44])]) _ (okF_of (by simpa using o ((S "sign", [40]) :: (toks a ++ [(S "sign", [44])])))) e6 (free_ok 44 _ (.inr (.inr (.inr rfl))))
    have g7 := go_signC (h := h) (F := F ++ [(S "word", S "part")] ++ [(S "sign", [40])] ++ toks a ++ [(S "sign", [44])] ++ toks b) hz e7 (by decide)
    have g8 := go_blankN (h := h) (F := F ++ [(S "word", S "part")] ++ [(S "sign", [40])] ++ toks a ++ [(S "sign", [44])] ++ toks b ++ [(S "sign", [44])]) hz e8 (head_ne (shw_head c g.2.2)) (by simpa using o ((S "sign", [40]) :: (toks a ++ (S "sign", [44]) :: (toks b ++ [(S "sign", [44])]))))
    have g9 := go_expr (h := h) hz c g.2.2 _ (F ++ [(S "word", S "part")] ++ [(S "sign", [40])] ++ toks a ++ [(S "sign", [44])] ++ toks b ++ [(S "sign", [44])]) _ (okF_of (by simpa using o ((S "sign", [40]) :: (toks a ++ (S "sign", [44]) :: (toks b ++ [(S "sign", [44])]))))) e9 (free_ok 41 _ (.inr (.inl rfl)))
    have g10 := go_signC (h := h) (F := F ++ [(S "word", S "part")] ++ [(S "sign", [40])] ++ toks a ++ [(S "sign", [44])] ++ toks b ++ [(S "sign", [44])] ++ toks c) hz e10 (by decide)
    have q_c : S "," = [44] := by decide
    exact (g1.trans (g2.trans (g3.trans (g4.trans (g5.trans (g6.trans (g7.trans (g8.trans (g9.trans g10))))))))).cast (by simp [shw, q_lp, q_rp, q_cs]; omega) (by simp [toks, q_lp, q_rp, q_c])
noncomputable def A_tokens : Fn := tr 5 (g_tokens A_kind_at A_is_noted A_refuse_unless A_is_plain)
theorem tokens_eq (e : Ex) (g : good e) (hd : dep e ≤ 9) (h : Hh) : A_tokens [.str (shw e)] h = .ok (.lst ((toks e).map tD)) h := by
  have hz := shw_big g hd
  obtain ⟨_, _, go⟩ := go_expr (t := shw e) (h := h) (by omega) e g 0 [] [] trivial (by simp) (fun c hc => by simp at hc) (Nat.le_refl _)
  obtain ⟨j, o3, o4, hj, st⟩ := go none none
  have hj2 : j ≤ 4000000 := by omega
  have s := st (lots - j)
  have bl : 4000001 ≤ lots := by decide
  rw [show lots - j + j = lots by omega] at s
  have s2 : whileN tCond tBody (lots - j) (tst (shw e) h.length (0 + (shw e).length) o3 o4) (h ++ [some (.lst ((toks e).map tD))]) = .nx (tst (shw e) h.length (0 + (shw e).length) o3 o4) (h ++ [some (.lst ((toks e).map tD))]) := by
    rw [show lots - j = (lots - j - 1) + 1 by omega, whileN_step, tCond_eq]
    simp
  have s3 := s.trans s2
  simp only [tst, List.map_nil] at s3
  push_cast at s3
  have x : run 5 (g_tokens A_kind_at A_is_noted A_refuse_unless A_is_plain) [.str (shw e)] h = .ok (.lst ((toks e).map tD)) (h ++ [none]) := by
    rw [tokens_parts]
    simp [run, start, sSeq, sSet, sNil, sExpr, sRet, sRetN, sIf, sNo, sPut, Dn.sFld, Dn.sFldAdd, sAug, eVar, eC, Dn.e1, Dn.e2, aNil, aCons, eTup, eLst, eCall, tE, tBl, Dn.tNot, Dn.tAnd, Dn.tOr, Dn.tYes, eIf, eAnd, eOr, eNot, eChain, eB, on1, on2, bLen, fLen, bIsi, fIsi, tyOf, isT, bAll, fAll, bAny, fAny, bStr, fStr, bInt, fInt, bAbs, fAbs, bMin, fMin, bTuple, fTuple, bList, fList, opAdd, opSub, opMul, opDiv, opMod, opPow, opNeg, opItem, opSlice, eSlice, oNone, oSome, opAddI, cEq, cNe, cLt, cLe, cGt, cGe, cIn, keyD, truth, deref, Dn.gName, Dn.gNil, Dn.gCons, Dn.gTup, Dn.gStar, R.bind_ok, R.bind_no, R.thenS_ok, R.thenS_no, RS.next_nx, RS.next_rt, RS.next_no, onG_ok, eFld, fget, fput, insOf, setF, eMeth, onIns, eBM, eBM0, tyD, mAppend, mPop, mExtend, mJoin, mFind, Dn.m0, Dn.m1, Dn.m2, eBox, eFrz, eMake, big, sWhile, s3, at_last, set_last]
  show trim h _ = _
  rw [x]
  refine trim_app (areData_below (n := 60) _ _ (areData_all.mpr fun d hd => ?_))
  obtain ⟨k, _, rfl⟩ := List.mem_map.mp hd
  rfl
end Dk75

/-! text Dk75r -/
set_option maxHeartbeats 1000000
set_option Elab.async false
set_option linter.all false
set_option maxRecDepth 100000
set_option autoImplicit false
set_option maxHeartbeats 8000000
/-! k75: the reader. -/
namespace Dk75
open Dn
/-- the reader over these tokens, at this spot -/
def rd (T : List Tk) (k : Nat) : O := .ins "Reading" ["rest", "spot"] [.lst (T.map tD), .int k]
def At (h : Hh) (n : Nat) (T : List Tk) (k : Nat) : Prop := h[n]? = some (some (rd T k))
def mv (h : Hh) (n : Nat) (T : List Tk) (k : Nat) : Hh := h.set n (some (rd T k))
theorem At.lt {h : Hh} {n : Nat} {T : List Tk} {k : Nat} (a : At h n T k) : n < h.length := by
  unfold At at a
  by_cases z : n < h.length
  · exact z
  · rw [List.getElem?_eq_none (by omega)] at a
    cases a
theorem At.mv {h : Hh} {n : Nat} {T : List Tk} {k : Nat} (a : At h n T k) (k' : Nat) : At (mv h n T k') n T k' := by
  unfold At Dk75.mv
  rw [List.getElem?_set_self a.lt]
theorem mv_mv (h : Hh) (n : Nat) (T : List Tk) (k k' : Nat) : mv (mv h n T k) n T k' = mv h n T k' := by simp [mv]
theorem mv_len (h : Hh) (n : Nat) (T : List Tk) (k : Nat) : (mv h n T k).length = h.length := by simp [mv]
theorem At.app {h : Hh} {n : Nat} {T : List Tk} {k : Nat} (a : At h n T k) (g : Hh) : At (h ++ g) n T k := by
  unfold At
  rw [List.getElem?_append_left a.lt]
  exact a
theorem mv_app {h : Hh} {n : Nat} {T : List Tk} {k : Nat} (a : At h n T k) (k' : Nat) (g : Hh) : mv (h ++ g) n T k' = mv h n T k' ++ g := by
  unfold mv
  rw [List.set_append_left _ _ a.lt]
def nxt (T : List Tk) (k : Nat) : Tk := (T[k]?).getD (S "end", S "")
noncomputable def A_look : Fn := tr 1 g_Reading_look
theorem look_eq {h : Hh} {n : Nat} {T : List Tk} {k : Nat} (a : At h n T k) : A_look [.loc n] h = .ok (tD (nxt T k)) h := by
  have x : run 1 g_Reading_look [.loc n] h = .ok (tD (nxt T k)) h := by
    have a' : h[n]? = some (some (.ins "Reading" ["rest", "spot"] [.lst (T.map tD), .int k])) := a
    unfold g_Reading_look
    by_cases z : k < T.length
    · have z' : (k : Int) < (T.length : Int) := by omega
      have ix := atIx_nat (T.map tD) k (by simpa using z)
      simp [run, start, sSeq, sSet, sNil, sExpr, sRet, sRetN, sIf, sNo, sPut, Dn.sFld, Dn.sFldAdd, sAug, eVar, eC, Dn.e1, Dn.e2, aNil, aCons, eTup, eLst, eCall, tE, tBl, Dn.tNot, Dn.tAnd, Dn.tOr, Dn.tYes, eIf, eAnd, eOr, eNot, eChain, eB, on1, on2, bLen, fLen, bIsi, fIsi, tyOf, isT, bAll, fAll, bAny, fAny, bStr, fStr, bInt, fInt, bAbs, fAbs, bMin, fMin, bTuple, fTuple, bList, fList, opAdd, opSub, opMul, opDiv, opMod, opPow, opNeg, opItem, opSlice, eSlice, oNone, oSome, opAddI, cEq, cNe, cLt, cLe, cGt, cGe, cIn, keyD, truth, deref, Dn.gName, Dn.gNil, Dn.gCons, Dn.gTup, Dn.gStar, R.bind_ok, R.bind_no, R.thenS_ok, R.thenS_no, RS.next_nx, RS.next_rt, RS.next_no, onG_ok, eFld, fget, fput, insOf, setF, eMeth, onIns, eBM, eBM0, tyD, mAppend, mPop, mExtend, mJoin, mFind, Dn.m0, Dn.m1, Dn.m2, eBox, eFrz, eMake, big, a', z', ix, nxt, z]
    · have z' : ¬ (k : Int) < (T.length : Int) := by omega
      have e : T[k]? = none := List.getElem?_eq_none (by omega)
      simp [run, start, sSeq, sSet, sNil, sExpr, sRet, sRetN, sIf, sNo, sPut, Dn.sFld, Dn.sFldAdd, sAug, eVar, eC, Dn.e1, Dn.e2, aNil, aCons, eTup, eLst, eCall, tE, tBl, Dn.tNot, Dn.tAnd, Dn.tOr, Dn.tYes, eIf, eAnd, eOr, eNot, eChain, eB, on1, on2, bLen, fLen, bIsi, fIsi, tyOf, isT, bAll, fAll, bAny, fAny, bStr, fStr, bInt, fInt, bAbs, fAbs, bMin, fMin, bTuple, fTuple, bList, fList, opAdd, opSub, opMul, opDiv, opMod, opPow, opNeg, opItem, opSlice, eSlice, oNone, oSome, opAddI, cEq, cNe, cLt, cLe, cGt, cGe, cIn, keyD, truth, deref, Dn.gName, Dn.gNil, Dn.gCons, Dn.gTup, Dn.gStar, R.bind_ok, R.bind_no, R.thenS_ok, R.thenS_no, RS.next_nx, RS.next_rt, RS.next_no, onG_ok, eFld, fget, fput, insOf, setF, eMeth, onIns, eBM, eBM0, tyD, mAppend, mPop, mExtend, mJoin, mFind, Dn.m0, Dn.m1, Dn.m2, eBox, eFrz, eMake, big, a', z', nxt, e, tD]
  show trim h _ = _
  rw [x, trim_same]
theorem onI {h : Hh} {n : Nat} {T : List Tk} {k : Nat} (a : At h n T k) (m : String) (h1 : m ≠ "rest") (h2 : m ≠ "spot") (g : R D) : onIns "Reading" m (.loc n) h g = g := by
  have a' : h[n]? = some (some (.ins "Reading" ["rest", "spot"] [.lst (T.map tD), .int k])) := a
  unfold onIns
  simp [a', fget, Ne.symm h1, Ne.symm h2]
theorem eqv_tD (p q : Tk) : eqv (tD p) (tD q) = decide (p = q) := by
  obtain ⟨a, b⟩ := p
  obtain ⟨c, d⟩ := q
  show ((a == c) && ((b == d) && true)) = _
  rw [Bool.and_true, Bool.eq_iff_iff]
  simp
noncomputable def A_is_next : Fn := tr 3 (g_Reading_is_next A_look)
theorem is_next_eq {h : Hh} {n : Nat} {T : List Tk} {k : Nat} (a : At h n T k) (K X : Tx) : A_is_next [.loc n, .str K, .str X] h = .ok (.bl (decide (nxt T k = (K, X)))) h := by
  have x : run 3 (g_Reading_is_next A_look) [.loc n, .str K, .str X] h = .ok (.bl (decide (nxt T k = (K, X)))) h := by
    unfold g_Reading_is_next
    have lk := look_eq a
    have e : ∀ hh : Hh, cEq (tD (nxt T k)) (.tup [.str K, .str X]) hh = .ok (.bl (decide (nxt T k = (K, X)))) hh := fun hh => by
      show R.ok (D.bl (eqv (tD (nxt T k)) (tD (K, X)))) hh = _
      rw [eqv_tD]
    simp [run, start, sSeq, sSet, sNil, sExpr, sRet, sRetN, sIf, sNo, sPut, Dn.sFld, Dn.sFldAdd, sAug, eVar, eC, Dn.e1, Dn.e2, aNil, aCons, eTup, eLst, eCall, tE, tBl, Dn.tNot, Dn.tAnd, Dn.tOr, Dn.tYes, eIf, eAnd, eOr, eNot, eChain, eB, on1, on2, bLen, fLen, bIsi, fIsi, tyOf, isT, bAll, fAll, bAny, fAny, bStr, fStr, bInt, fInt, bAbs, fAbs, bMin, fMin, bTuple, fTuple, bList, fList, opAdd, opSub, opMul, opDiv, opMod, opPow, opNeg, opItem, opSlice, eSlice, oNone, oSome, opAddI, cNe, cLt, cLe, cGt, cGe, cIn, keyD, truth, deref, Dn.gName, Dn.gNil, Dn.gCons, Dn.gTup, Dn.gStar, R.bind_ok, R.bind_no, R.thenS_ok, R.thenS_no, RS.next_nx, RS.next_rt, RS.next_no, onG_ok, eFld, fget, fput, insOf, setF, eMeth, eBM, eBM0, tyD, mAppend, mPop, mExtend, mJoin, mFind, Dn.m0, Dn.m1, Dn.m2, eBox, eFrz, eMake, big, onI a "look" (by decide) (by decide), lk, e]
  show trim h _ = _
  rw [x, trim_same]
noncomputable def A_take : Fn := tr 4 (g_Reading_take A_look A_refuse_unless)
theorem setF_eq {h : Hh} {n : Nat} {T : List Tk} {k : Nat} (a : At h n T k) (k' : Nat) : setF "Reading" "spot" (.loc n) (.int k') h = .ok .non (mv h n T k') := by
  have a' : h[n]? = some (some (.ins "Reading" ["rest", "spot"] [.lst (T.map tD), .int k])) := a
  unfold setF insOf
  simp [a', fput, mv, rd]
theorem fldadd_eq {h : Hh} {n : Nat} {T : List Tk} {k : Nat} (a : At h n T k) (env : Dn.Env) (o : Nat) (he : env[o]? = some (some (.loc n))) : Dn.sFldAdd "Reading" "spot" (eVar o) (eC (.int 1)) env h = .nx env (mv h n T (k + 1)) := by
  have a' : h[n]? = some (some (.ins "Reading" ["rest", "spot"] [.lst (T.map tD), .int k])) := a
  have s := setF_eq a (k + 1)
  push_cast at s
  unfold Dn.sFldAdd insOf
  simp [eVar, eC, he, a', fget, s]
theorem take_eq {h : Hh} {n : Nat} {T : List Tk} {k : Nat} (a : At h n T k) (K X : Tx) (e : nxt T k = (K, X)) : A_take [.loc n, .str K] h = .ok (.str X) (mv h n T (k + 1)) := by
  have x : run 4 (g_Reading_take A_look A_refuse_unless) [.loc n, .str K] h = .ok (.str X) (mv h n T (k + 1)) := by
    unfold g_Reading_take
    have lk := look_eq a
    rw [e] at lk
    have f := fldadd_eq a [some (.loc n), some (.str K), some (.str K), some (.str X)] 0 rfl
    have ce : ∀ hh : Hh, cEq (.str K) (.str K) hh = .ok (.bl true) hh := fun hh => by
      show R.ok (D.bl (K == K)) hh = _
      simp
    simp [run, start, sSeq, sSet, sNil, sExpr, sRet, sRetN, sIf, sNo, sPut, Dn.sFld, sAug, eVar, eC, Dn.e1, Dn.e2, aNil, aCons, eTup, eLst, eCall, tE, tBl, Dn.tNot, Dn.tAnd, Dn.tOr, Dn.tYes, eIf, eAnd, eOr, eNot, eChain, eB, on1, on2, bLen, fLen, bIsi, fIsi, tyOf, isT, bAll, fAll, bAny, fAny, bStr, fStr, bInt, fInt, bAbs, fAbs, bMin, fMin, bTuple, fTuple, bList, fList, opAdd, opSub, opMul, opDiv, opMod, opPow, opNeg, opItem, opSlice, eSlice, oNone, oSome, opAddI, cNe, cLt, cLe, cGt, cGe, cIn, keyD, truth, deref, Dn.gName, Dn.gNil, Dn.gCons, Dn.gTup, Dn.gStar, R.bind_ok, R.bind_no, R.thenS_ok, R.thenS_no, RS.next_nx, RS.next_rt, RS.next_no, onG_ok, eFld, fget, fput, insOf, setF, eMeth, eBM, eBM0, tyD, mAppend, mPop, mExtend, mJoin, mFind, Dn.m0, Dn.m1, Dn.m2, eBox, eFrz, eMake, big, onI a "look" (by decide) (by decide), lk, tD, ce, refuse_ok, f]
  show trim h _ = _
  rw [x, trim_len (mv_len _ _ _ _)]
noncomputable def A_must : Fn := tr 3 (g_Reading_must A_refuse_unless A_take)
theorem must_eq {h : Hh} {n : Nat} {T : List Tk} {k : Nat} (a : At h n T k) (K X : Tx) (e : nxt T k = (K, X)) : A_must [.loc n, .str K, .str X] h = .ok .non (mv h n T (k + 1)) := by
  have x : run 3 (g_Reading_must A_refuse_unless A_take) [.loc n, .str K, .str X] h = .ok .non (mv h n T (k + 1)) := by
    unfold g_Reading_must
    have tk := take_eq a K X e
    have ce : ∀ hh : Hh, cEq (.str X) (.str X) hh = .ok (.bl true) hh := fun hh => by
      show R.ok (D.bl (X == X)) hh = _
      simp
    simp [run, start, sSeq, sSet, sNil, sExpr, sRet, sRetN, sIf, sNo, sPut, Dn.sFld, Dn.sFldAdd, sAug, eVar, eC, Dn.e1, Dn.e2, aNil, aCons, eTup, eLst, eCall, tE, tBl, Dn.tNot, Dn.tAnd, Dn.tOr, Dn.tYes, eIf, eAnd, eOr, eNot, eChain, eB, on1, on2, bLen, fLen, bIsi, fIsi, tyOf, isT, bAll, fAll, bAny, fAny, bStr, fStr, bInt, fInt, bAbs, fAbs, bMin, fMin, bTuple, fTuple, bList, fList, opAdd, opSub, opMul, opDiv, opMod, opPow, opNeg, opItem, opSlice, eSlice, oNone, oSome, opAddI, cNe, cLt, cLe, cGt, cGe, cIn, keyD, truth, deref, Dn.gName, Dn.gNil, Dn.gCons, Dn.gTup, Dn.gStar, R.bind_ok, R.bind_no, R.thenS_ok, R.thenS_no, RS.next_nx, RS.next_rt, RS.next_no, onG_ok, eFld, fget, fput, insOf, setF, eMeth, eBM, eBM0, tyD, mAppend, mPop, mExtend, mJoin, mFind, Dn.m0, Dn.m1, Dn.m2, eBox, eFrz, eMake, big, onI a "take" (by decide) (by decide), tk, ce, refuse_ok]
  show trim h _ = _
  rw [x, trim_len (mv_len _ _ _ _)]
noncomputable def A_counted : Fn := tr 2 (g_Reading_counted A_take A_refuse_unless)
theorem counted_eq {h : Hh} {n : Nat} {T : List Tk} {k m : Nat} (a : At h n T k) (z : m ≤ 1000000000000) (e : nxt T k = (S "figures", natT m)) : A_counted [.loc n] h = .ok (.int m) (mv h n T (k + 1)) := by
  have x : run 2 (g_Reading_counted A_take A_refuse_unless) [.loc n] h = .ok (.int m) (mv h n T (k + 1)) := by
    unfold g_Reading_counted
    have tk := take_eq a _ _ e
    have ln : (natT m).length ≤ 13 := natT_len (by decide) (by omega)
    have ln' : ((natT m).length : Int) ≤ 13 := by omega
    have fi : ∀ hh : Hh, fInt (.str (natT m)) hh = .ok (.int m) hh := fun hh => by
      show (if natT m ≠ [] ∧ (natT m).length ≤ 640 ∧ ((natT m).all fun c => decide (48 ≤ c ∧ c ≤ 57)) = true then R.ok (D.int ((natT m).foldl (fun (n : Int) (c : Nat) => n * 10 + ((c : Int) - 48)) 0)) hh else R.no) = _
      rw [if_pos ⟨(nat_fig m).1, by omega, List.all_eq_true.mpr fun c hc => by simpa using natT_codes m c hc⟩]
      have := TL.fold_num m
      rw [show natT m = TL.numL m from rfl, this]
    simp [run, start, sSeq, sSet, sNil, sExpr, sRet, sRetN, sIf, sNo, sPut, Dn.sFld, Dn.sFldAdd, sAug, eVar, eC, Dn.e1, Dn.e2, aNil, aCons, eTup, eLst, eCall, tE, tBl, Dn.tNot, Dn.tAnd, Dn.tOr, Dn.tYes, eIf, eAnd, eOr, eNot, eChain, eB, on1, on2, bLen, fLen, bIsi, fIsi, tyOf, isT, bAll, fAll, bAny, fAny, bStr, fStr, bInt, bAbs, fAbs, bMin, fMin, bTuple, fTuple, bList, fList, opAdd, opSub, opMul, opDiv, opMod, opPow, opNeg, opItem, opSlice, eSlice, oNone, oSome, opAddI, cEq, cNe, cLt, cLe, cGt, cGe, cIn, keyD, truth, deref, Dn.gName, Dn.gNil, Dn.gCons, Dn.gTup, Dn.gStar, R.bind_ok, R.bind_no, R.thenS_ok, R.thenS_no, RS.next_nx, RS.next_rt, RS.next_no, onG_ok, eFld, fget, fput, insOf, setF, eMeth, eBM, eBM0, tyD, mAppend, mPop, mExtend, mJoin, mFind, Dn.m0, Dn.m1, Dn.m2, eBox, eFrz, eMake, big, onI a "take" (by decide) (by decide), tk, k_MOST_FIGURES, ln', refuse_ok, fi]
  show trim h _ = _
  rw [x, trim_len (mv_len _ _ _ _)]
end Dk75

/-! text Dk75s -/
set_option maxHeartbeats 1000000
set_option Elab.async false
set_option linter.all false
set_option maxRecDepth 100000
set_option autoImplicit false
set_option maxHeartbeats 8000000
/-! k75: the reader reads what was shown. -/
namespace Dk75
open Dn
theorem mv_self {h : Hh} {n : Nat} {T : List Tk} {k : Nat} (a : At h n T k) : mv h n T k = h := by
  unfold mv
  refine List.ext_getElem? fun i => ?_
  by_cases z : n = i
  · subst z
    rw [List.getElem?_set_self a.lt]
    exact a.symm
  · rw [List.getElem?_set_ne z]
theorem nxt_of {T : List Tk} {k : Nat} {x : Tk} {r : List Tk} (e : T.drop k = x :: r) : nxt T k = x ∧ T.drop (k + 1) = r := by
  have hk : k < T.length := by
    by_cases z : k < T.length
    · exact z
    · rw [List.drop_eq_nil_iff.mpr (by omega)] at e
      cases e
  rw [List.drop_eq_getElem_cons hk] at e
  obtain ⟨e1, e2⟩ := List.cons.inj e
  exact ⟨by simp [nxt, hk, e1], e2⟩
theorem dropT {T s r : List Tk} {k : Nat} (e : T.drop k = s ++ r) : T.drop (k + s.length) = r := by
  rw [← List.drop_drop, e, List.drop_left]
theorem trim_mv {h : Hh} {n : Nat} {T : List Tk} {k k' : Nat} (a : At h n T k) (g : Hh) {d : D} (b : below h.length d = true) : trim h (.ok d (mv h n T k' ++ g)) = .ok d (mv h n T k') := by
  refine trim_to (mv_len _ _ _ _) b fun i hi => ?_
  by_cases z : n = i
  · subst z
    refine .inr fun o ho => ?_
    unfold mv at ho
    rw [List.getElem?_set_self hi] at ho
    cases ho
    show belows h.length [.lst (T.map tD), .int k'] = true
    refine areData_below (n := 60) _ _ ?_
    have : areData 59 (T.map tD) = true := areData_all.mpr fun d hd => by
      obtain ⟨x, _, rfl⟩ := List.mem_map.mp hd
      rfl
    show (areData 59 (T.map tD) && (true && true)) = true
    rw [this]
    rfl
  · exact .inl (by unfold mv; rw [List.getElem?_set_ne z])
section
variable {h : Hh} {n : Nat} {T : List Tk} {k : Nat} (a : At h n T k)
include a
theorem mustA {j : Nat} {K X : Tx} (e : nxt T j = (K, X)) (g : Hh) : A_must [.loc n, .str K, .str X] (mv h n T j ++ g) = .ok .non (mv h n T (j + 1) ++ g) := by
  rw [must_eq ((a.mv j).app g) K X e, mv_app (a.mv j), mv_mv]
theorem takeA {j : Nat} {K X : Tx} (e : nxt T j = (K, X)) : A_take [.loc n, .str K] (mv h n T j) = .ok (.str X) (mv h n T (j + 1)) := by
  rw [take_eq (a.mv j) K X e, mv_mv]
theorem nextA (j : Nat) (K X : Tx) : A_is_next [.loc n, .str K, .str X] (mv h n T j) = .ok (.bl (decide (nxt T j = (K, X)))) (mv h n T j) := is_next_eq (a.mv j) K X
theorem onA (j : Nat) (g : Hh) (m : String) (h1 : m ≠ "rest") (h2 : m ≠ "spot") (r : R D) : onIns "Reading" m (.loc n) (mv h n T j ++ g) r = r := onI ((a.mv j).app g) m h1 h2 r
theorem onB (j : Nat) (m : String) (h1 : m ≠ "rest") (h2 : m ≠ "spot") (r : R D) : onIns "Reading" m (.loc n) (mv h n T j) r = r := onI (a.mv j) m h1 h2 r
theorem lastA (j : Nat) (o : Option O) : (mv h n T j ++ [o])[h.length]? = some o := by
  rw [← mv_len h n T j]
  exact at_last _ _
theorem setA (j : Nat) (o u : Option O) : (mv h n T j ++ [o]).set h.length u = mv h n T j ++ [u] := by
  have := set_last (mv h n T j) o u
  rwa [mv_len] at this
theorem appA (j : Nat) (xs : List D) (y : D) (z : xs.length < 100) : fAppend (.loc h.length) y (mv h n T j ++ [some (.lst xs)]) = .ok .non (mv h n T j ++ [some (.lst (xs ++ [y]))]) := by
  have := fAppend_at (mv h n T j) xs y (Nat.lt_of_lt_of_le z (by decide))
  rwa [mv_len] at this
end
/-- what may follow an expression's tokens -/
def ends (r : List Tk) : Prop := ∀ x ∈ r.head?, x ≠ (S "sign", S "(") ∧ x ≠ (S "sign", S "[")
theorem ends_sign {X : Tx} (r : List Tk) (h1 : X ≠ S "(") (h2 : X ≠ S "[") : ends ((S "sign", X) :: r) := fun x hx => by
  have : x = (S "sign", X) := by simpa using hx.symm
  subst this
  exact ⟨fun z => h1 (Prod.mk.inj z).2, fun z => h2 (Prod.mk.inj z).2⟩
/-- E reads e at this depth -/
def Reads (E : Fn) (e : Ex) (d : Nat) : Prop := ∀ (h : Hh) (n : Nat) (T : List Tk) (k : Nat) (rest : List Tk), At h n T k → T.drop k = toks e ++ rest → ends rest → E [.loc n, .int d] h = .ok (toD e) (mv h n T (k + (toks e).length))
theorem readsA {E : Fn} {e : Ex} {d : Nat} (r : Reads E e d) {h : Hh} {n : Nat} {T : List Tk} {k : Nat} (a : At h n T k) {j : Nat} {rest : List Tk} (ed : T.drop j = toks e ++ rest) (en : ends rest) (g : Hh) :
    E [.loc n, .int d] (mv h n T j ++ g) = .ok (toD e) (mv h n T (j + (toks e).length) ++ g) := by
  rw [r _ n T j rest ((a.mv j).app g) ed en, mv_app (a.mv j), mv_mv]
theorem readsB {E : Fn} {e : Ex} {d : Nat} (r : Reads E e d) {h : Hh} {n : Nat} {T : List Tk} {k : Nat} (a : At h n T k) {j : Nat} {rest : List Tk} (ed : T.drop j = toks e ++ rest) (en : ends rest) :
    E [.loc n, .int d] (mv h n T j) = .ok (toD e) (mv h n T (j + (toks e).length)) := by
  rw [r _ n T j rest (a.mv j) ed en, mv_mv]
noncomputable def A_placed (E : Fn) : Fn := tr 3 (g_Reading_placed A_must E)
theorem placed_eq {E : Fn} {e : Ex} {d : Nat} (r : Reads E e d) {h : Hh} {n : Nat} {T : List Tk} {k : Nat} (a : At h n T k) {rest : List Tk} (ed : T.drop k = (S "sign", S "[") :: (toks e ++ (S "sign", S "]") :: rest)) :
    A_placed E [.loc n, .int d] (mv h n T k) = .ok (toD e) (mv h n T (k + 1 + (toks e).length + 1)) := by
  obtain ⟨n1, d1⟩ := nxt_of ed
  have d2 := dropT d1
  obtain ⟨n2, _⟩ := nxt_of d2
  have m1 := mustA a n1 []
  have m2 := mustA a n2 []
  have rr := readsB r a d1 (ends_sign rest (by decide) (by decide))
  simp only [List.append_nil] at m1 m2
  have x : run 3 (g_Reading_placed A_must E) [.loc n, .int d] (mv h n T k) = .ok (toD e) (mv h n T (k + 1 + (toks e).length + 1)) := by
    unfold g_Reading_placed
    simp [run, start, sSeq, sSet, sNil, sExpr, sRet, sRetN, sIf, sNo, sPut, Dn.sFld, Dn.sFldAdd, sAug, eVar, eC, Dn.e1, Dn.e2, aNil, aCons, eTup, eLst, eCall, tE, tBl, Dn.tNot, Dn.tAnd, Dn.tOr, Dn.tYes, eIf, eAnd, eOr, eNot, eChain, eB, on1, on2, bLen, fLen, bIsi, fIsi, tyOf, isT, bAll, fAll, bAny, fAny, bStr, fStr, bInt, fInt, bAbs, fAbs, bMin, fMin, bTuple, fTuple, bList, fList, opAdd, opSub, opMul, opDiv, opMod, opPow, opNeg, opItem, opSlice, eSlice, oNone, oSome, opAddI, cEq, cNe, cLt, cLe, cGt, cGe, cIn, keyD, truth, deref, Dn.gName, Dn.gNil, Dn.gCons, Dn.gTup, Dn.gStar, R.bind_ok, R.bind_no, R.thenS_ok, R.thenS_no, RS.next_nx, RS.next_rt, RS.next_no, onG_ok, eFld, fget, fput, insOf, setF, eMeth, eBM, eBM0, tyD, mAppend, mPop, mExtend, mJoin, mFind, Dn.m0, Dn.m1, Dn.m2, eBox, eFrz, eMake, big, onB a _ "must" (by decide) (by decide), onB a _ "expression" (by decide) (by decide), m1, m2, rr]
  show trim _ _ = _
  rw [x, trim_len (by rw [mv_len, mv_len])]
noncomputable def A_of_two (E : Fn) : Fn := tr 6 (g_Reading_of_two A_must E A_look A_refuse_unless)
theorem opK_in (op : Tx) (hh : Hh) : cIn (.str (opK op)) (.tup [.str (S "sign"), .str (S "word")]) hh = .ok (.bl true) hh := by
  unfold opK
  split <;> rfl
theorem of_two_eq {E : Fn} {x y : Ex} {op : Tx} {d : Nat} (g : op ∈ OPS) (rx : Reads E x d) (ry : Reads E y d) {h : Hh} {n : Nat} {T : List Tk} {k : Nat} (a : At h n T k) {rest : List Tk} (ed : T.drop k = toks (.two op x y) ++ rest) :
    A_of_two E [.loc n, .int d] (mv h n T k) = .ok (toD (.two op x y)) (mv h n T (k + (toks (.two op x y)).length)) := by
  have ed1 : T.drop k = (S "sign", S "(") :: (toks x ++ ((opK op, op) :: (toks y ++ ((S "sign", S ")") :: rest)))) := by rw [ed]; simp [toks]
  obtain ⟨n1, d1⟩ := nxt_of ed1
  have d2 := dropT d1
  obtain ⟨n3, d3⟩ := nxt_of d2
  have d4 := dropT d3
  obtain ⟨n5, _⟩ := nxt_of d4
  have m1 := mustA a n1 []
  have m2 := mustA a n5 []
  simp only [List.append_nil] at m1 m2
  have eo : ends ((opK op, op) :: (toks y ++ ((S "sign", S ")") :: rest))) := fun z hz => by
    have : z = (opK op, op) := by simpa using hz.symm
    subst this
    have l : op ≠ S "(" ∧ op ≠ S "[" := by
      simp only [OPS, List.mem_cons, List.not_mem_nil, or_false] at g
      rcases g with rfl | rfl | rfl | rfl | rfl | rfl | rfl | rfl | rfl | rfl <;> decide
    exact ⟨fun z => l.1 (Prod.mk.inj z).2, fun z => l.2 (Prod.mk.inj z).2⟩
  have r1 := readsB rx a d1 eo
  have r2 := readsB ry a d3 (ends_sign rest (by decide) (by decide))
  have lk := look_eq (a.mv (k + 1 + (toks x).length))
  rw [n3] at lk
  have sg := (op_facts g).2.2.1
  have f := fldadd_eq (a.mv (k + 1 + (toks x).length)) [some (.loc n), some (.int d), some (toD x), none, some (.str (opK op)), some (.str op)] 0 rfl
  rw [mv_mv] at f
  have z : run 6 (g_Reading_of_two A_must E A_look A_refuse_unless) [.loc n, .int d] (mv h n T k) = .ok (toD (.two op x y)) (mv h n T (k + 1 + (toks x).length + 1 + (toks y).length + 1)) := by
    unfold g_Reading_of_two
    simp [run, start, sSeq, sSet, sNil, sExpr, sRet, sRetN, sIf, sNo, sPut, Dn.sFld, sAug, eVar, eC, Dn.e1, Dn.e2, aNil, aCons, eTup, eLst, eCall, tE, tBl, Dn.tNot, Dn.tAnd, Dn.tOr, Dn.tYes, eIf, eAnd, eOr, eNot, eChain, eB, on1, on2, bLen, fLen, bIsi, fIsi, tyOf, isT, bAll, fAll, bAny, fAny, bStr, fStr, bInt, fInt, bAbs, fAbs, bMin, fMin, bTuple, fTuple, bList, fList, opAdd, opSub, opMul, opDiv, opMod, opPow, opNeg, opItem, opSlice, eSlice, oNone, oSome, opAddI, cEq, cNe, cLt, cLe, cGt, cGe, keyD, truth, deref, Dn.gName, Dn.gNil, Dn.gCons, Dn.gTup, Dn.gStar, R.bind_ok, R.bind_no, R.thenS_ok, R.thenS_no, RS.next_nx, RS.next_rt, RS.next_no, onG_ok, eFld, fget, fput, insOf, setF, eMeth, eBM, eBM0, tyD, mAppend, mPop, mExtend, mJoin, mFind, Dn.m0, Dn.m1, Dn.m2, eBox, eFrz, eMake, big, onB a _ "must" (by decide) (by decide), onB a _ "expression" (by decide) (by decide), onB a _ "look" (by decide) (by decide), m1, m2, r1, r2, lk, tD, opK_in, sg, refuse_ok, f, toD]
  show trim _ _ = _
  rw [z, trim_len (by rw [mv_len, mv_len])]
  have : (toks (.two op x y)).length = 1 + (toks x).length + 1 + (toks y).length + 1 := by simp [toks]; omega
  rw [this]
  congr 2
  omega
end Dk75

/-! text Dk75w -/
set_option maxHeartbeats 1000000
set_option Elab.async false
set_option linter.all false
set_option maxRecDepth 100000
set_option autoImplicit false
set_option maxHeartbeats 8000000
/-! k75: the reader reads what was shown, whole. -/
namespace Dk75
open Dn
noncomputable def A_within (E : Fn) : Fn := tr 5 (g_Reading_within A_must E)
theorem within1_eq {E : Fn} {e : Ex} {d : Nat} (r : Reads E e d) (g : good e) (hd : dep e ≤ 50) {h : Hh} {n : Nat} {T : List Tk} {k : Nat} (a : At h n T k) {rest : List Tk} (j : Nat) (ed : T.drop j = (S "sign", S "(") :: (toks e ++ (S "sign", S ")") :: rest)) :
    A_within E [.loc n, .int 1, .int d] (mv h n T j) = .ok (.lst [toD e]) (mv h n T (j + 1 + (toks e).length + 1)) := by
  obtain ⟨n1, d1⟩ := nxt_of ed
  have d2 := dropT d1
  obtain ⟨n2, _⟩ := nxt_of d2
  have m1 := mustA a n1 []
  simp only [List.append_nil] at m1
  have m2 := mustA a n2 [some (.lst [toD e])]
  have rr := readsA r a d1 (ends_sign rest (by decide) (by decide)) [some (.lst [])]
  have rg : List.range 1 = [0] := rfl
  have ap := appA a (j + 1 + (toks e).length) [] (toD e) (by decide)
  simp only [List.nil_append] at ap
  have x : run 5 (g_Reading_within A_must E) [.loc n, .int 1, .int d] (mv h n T j) = .ok (.lst [toD e]) (mv h n T (j + 1 + (toks e).length + 1) ++ [none]) := by
    unfold g_Reading_within
    simp [run, start, sSeq, sSet, sNil, sExpr, sRet, sRetN, sIf, sNo, sPut, Dn.sFld, Dn.sFldAdd, sAug, eVar, eC, Dn.e1, Dn.e2, aNil, aCons, eTup, eLst, eCall, tE, tBl, Dn.tNot, Dn.tAnd, Dn.tOr, Dn.tYes, eIf, eAnd, eOr, eNot, eChain, eB, on1, on2, bLen, fLen, bIsi, fIsi, tyOf, isT, bAll, fAll, bAny, fAny, bStr, fStr, bInt, fInt, bAbs, fAbs, bMin, fMin, bTuple, fTuple, bList, fList, opAdd, opSub, opMul, opDiv, opMod, opPow, opNeg, opItem, opSlice, eSlice, oNone, oSome, opAddI, cEq, cNe, cLt, cLe, cGt, cGe, cIn, keyD, truth, deref, Dn.gName, Dn.gNil, Dn.gCons, Dn.gTup, Dn.gStar, R.bind_ok, R.bind_no, R.thenS_ok, R.thenS_no, RS.next_nx, RS.next_rt, RS.next_no, onG_ok, eFld, fget, fput, insOf, setF, eMeth, eBM, eBM0, tyD, mAppend, mPop, mExtend, mJoin, mFind, Dn.m0, Dn.m1, Dn.m2, eBox, eFrz, eMake, big, onB a _ "must" (by decide) (by decide), onA a _ _ "must" (by decide) (by decide), onA a _ _ "expression" (by decide) (by decide), m1, m2, rr, mv_len, sFor, iRange, forL, turnS, rg, lastA a, setA a, ap]
  show trim _ _ = _
  rw [x]
  have t := trim_mv (k' := j + 1 + (toks e).length + 1) (a.mv j) [none] (d := .lst [toD e]) (isData_below (n := 60) _ _ (row_data (by simpa using data_toD e 50 hd)))
  rw [mv_mv] at t
  exact t
theorem within3_eq {E : Fn} {x y z : Ex} {d : Nat} (rx : Reads E x d) (ry : Reads E y d) (rz : Reads E z d) (hx : dep x ≤ 50) (hy : dep y ≤ 50) (hz : dep z ≤ 50) {h : Hh} {n : Nat} {T : List Tk} {k : Nat} (a : At h n T k) {rest : List Tk} (j : Nat)
    (ed : T.drop j = (S "sign", S "(") :: (toks x ++ (S "sign", S ",") :: (toks y ++ (S "sign", S ",") :: (toks z ++ (S "sign", S ")") :: rest)))) :
    A_within E [.loc n, .int 3, .int d] (mv h n T j) = .ok (.lst [toD x, toD y, toD z]) (mv h n T (j + 1 + (toks x).length + 1 + (toks y).length + 1 + (toks z).length + 1)) := by
  obtain ⟨n1, d1⟩ := nxt_of ed
  have d2 := dropT d1
  obtain ⟨n2, d3⟩ := nxt_of d2
  have d4 := dropT d3
  obtain ⟨n3, d5⟩ := nxt_of d4
  have d6 := dropT d5
  obtain ⟨n4, _⟩ := nxt_of d6
  have m1 := mustA a n1 []
  simp only [List.append_nil] at m1
  have m2 := mustA a n2 [some (.lst [toD x])]
  have m3 := mustA a n3 [some (.lst [toD x, toD y])]
  have m4 := mustA a n4 [some (.lst [toD x, toD y, toD z])]
  have r1 := readsA rx a d1 (ends_sign _ (by decide) (by decide)) [some (.lst [])]
  have r2 := readsA ry a d3 (ends_sign _ (by decide) (by decide)) [some (.lst [toD x])]
  have r3 := readsA rz a d5 (ends_sign _ (by decide) (by decide)) [some (.lst [toD x, toD y])]
  have rg : List.range 3 = [0, 1, 2] := rfl
  have a1 := appA a (j + 1 + (toks x).length) [] (toD x) (by decide)
  have a2 := appA a (j + 1 + (toks x).length + 1 + (toks y).length) [toD x] (toD y) (by simp)
  have a3 := appA a (j + 1 + (toks x).length + 1 + (toks y).length + 1 + (toks z).length) [toD x, toD y] (toD z) (by simp)
  simp only [List.nil_append, List.cons_append] at a1 a2 a3
  have w : run 5 (g_Reading_within A_must E) [.loc n, .int 3, .int d] (mv h n T j) = .ok (.lst [toD x, toD y, toD z]) (mv h n T (j + 1 + (toks x).length + 1 + (toks y).length + 1 + (toks z).length + 1) ++ [none]) := by
    unfold g_Reading_within
    simp [run, start, sSeq, sSet, sNil, sExpr, sRet, sRetN, sIf, sNo, sPut, Dn.sFld, Dn.sFldAdd, sAug, eVar, eC, Dn.e1, Dn.e2, aNil, aCons, eTup, eLst, eCall, tE, tBl, Dn.tNot, Dn.tAnd, Dn.tOr, Dn.tYes, eIf, eAnd, eOr, eNot, eChain, eB, on1, on2, bLen, fLen, bIsi, fIsi, tyOf, isT, bAll, fAll, bAny, fAny, bStr, fStr, bInt, fInt, bAbs, fAbs, bMin, fMin, bTuple, fTuple, bList, fList, opAdd, opSub, opMul, opDiv, opMod, opPow, opNeg, opItem, opSlice, eSlice, oNone, oSome, opAddI, cEq, cNe, cLt, cLe, cGt, cGe, cIn, keyD, truth, deref, Dn.gName, Dn.gNil, Dn.gCons, Dn.gTup, Dn.gStar, R.bind_ok, R.bind_no, R.thenS_ok, R.thenS_no, RS.next_nx, RS.next_rt, RS.next_no, onG_ok, eFld, fget, fput, insOf, setF, eMeth, eBM, eBM0, tyD, mAppend, mPop, mExtend, mJoin, mFind, Dn.m0, Dn.m1, Dn.m2, eBox, eFrz, eMake, big, onB a _ "must" (by decide) (by decide), onA a _ _ "must" (by decide) (by decide), onA a _ _ "expression" (by decide) (by decide), m1, m2, m3, m4, r1, r2, r3, mv_len, sFor, iRange, forL, turnS, rg, lastA a, setA a, a1, a2, a3]
  show trim _ _ = _
  rw [w]
  have t := trim_mv (k' := j + 1 + (toks x).length + 1 + (toks y).length + 1 + (toks z).length + 1) (a.mv j) [none] (d := .lst [toD x, toD y, toD z]) (isData_below (n := 60) _ _ (row_data (by
    intro d hd
    simp only [List.mem_cons, List.not_mem_nil, or_false] at hd
    rcases hd with rfl | rfl | rfl
    · exact data_toD x 50 hx
    · exact data_toD y 50 hy
    · exact data_toD z 50 hz)))
  rw [mv_mv] at t
  exact t
noncomputable def A_called (E : Fn) : Fn := tr 3 (g_Reading_called A_take (A_within E) A_is_next (A_placed E))
theorem name_not {x : Tx} (h : nameOk x = true) : (∀ hh : Hh, cIn (.str x) k_ALONE hh = .ok (.bl false) hh) ∧ ∀ hh : Hh, cIn (.str x) k_CALLED hh = .ok (.bl false) hh := by
  have b : barred x = false := by
    simp only [nameOk, Bool.and_eq_true, Bool.not_eq_true'] at h
    exact h.1.2
  simp [barred] at b
  obtain ⟨_, _, b3, _, b5, b6, b7, b8, _⟩ := b
  constructor
  · intro hh
    simp [cIn, k_ALONE, flatD, eqv_ss, eqv_ii, eqv_bb, eqv_tt, eqv_ll, eqv_ts, eqv_st, eqvL_nn, eqvL_nc, eqvL_cn, eqvL_cc, Ne.symm b7, Ne.symm b8]
  · intro hh
    simp [cIn, k_CALLED, keyD, dget, Ne.symm b3, Ne.symm b5, Ne.symm b6]
theorem ends_not {T : List Tk} {j : Nat} {rest : List Tk} (e : T.drop j = rest) (en : ends rest) : nxt T j ≠ (S "sign", S "(") ∧ nxt T j ≠ (S "sign", S "[") := by
  cases rest with
  | nil =>
    have : T[j]? = none := List.getElem?_eq_none (by simpa using e)
    simp only [nxt, this]
    decide
  | cons x r =>
    rw [(nxt_of e).1]
    exact en x (by simp)
end Dk75

/-! text Dk75x -/
set_option maxHeartbeats 1000000
set_option Elab.async false
set_option linter.all false
set_option maxRecDepth 100000
set_option autoImplicit false
set_option maxHeartbeats 8000000
/-! k75: the reader's expression. -/
namespace Dk75
open Dn
theorem slc_quote (t : Tx) : slc (S "\"" ++ t ++ S "\"") (some 1) (some (-1)) = t := by
  rw [q_dq]
  have n : ([34] ++ t ++ [34]).length = t.length + 2 := by simp
  have m1 : min (1 : Int).toNat (t.length + 2) = 1 := by
    show min 1 (t.length + 2) = 1
    omega
  have m2 : (-1 + ((t.length + 2 : Nat) : Int)).toNat = t.length + 1 := by omega
  unfold slc clampI
  simp only [n]
  rw [if_neg (show ¬ (1 : Int) < 0 by decide), if_pos (show (-1 : Int) < 0 by decide), m1, m2]
  show ((t ++ [34]).take (t.length + 1 - 1)) = t
  rw [Nat.add_sub_cancel, List.take_left]
/-- the four that a word begins -/
inductive Called : Ex → Prop where
  | box {x : Tx} (h : nameOk x = true) : Called (.box x)
  | cell {x : Tx} {a : Ex} (h : nameOk x = true) : Called (.cell x a)
  | fit {x : Tx} {a : Ex} (h : nameOk x = true) : Called (.fit x a)
  | one {w : Tx} {a : Ex} (h : w ∈ W1) : Called (.one w a)
  | part {a b c : Ex} : Called (.part a b c)
  | alone {w : Tx} (h : w ∈ W0) : Called (.alone w)
theorem called_eq {E : Fn} {e : Ex} {d : Nat} (c : Called e) (g : good e) (hd : dep e ≤ 40) (r : ∀ k ∈ kids e, Reads E k (d + 1)) {h : Hh} {n : Nat} {T : List Tk} {k : Nat} (a : At h n T k) {rest : List Tk} (ed : T.drop k = toks e ++ rest) (en : ends rest) :
    A_called E [.loc n, .int d] (mv h n T k) = .ok (toD e) (mv h n T (k + (toks e).length)) := by
  have x : run 3 (g_Reading_called A_take (A_within E) A_is_next (A_placed E)) [.loc n, .int d] (mv h n T k) = .ok (toD e) (mv h n T (k + (toks e).length)) := by
    unfold g_Reading_called
    cases c with
    | @alone w hw =>
      obtain ⟨n1, d1⟩ := nxt_of (show T.drop k = (S "word", w) :: rest from ed)
      have t1 := takeA a n1
      simp only [W0, List.mem_cons, List.not_mem_nil, or_false] at hw
      rcases hw with rfl | rfl <;> simp [run, start, sSeq, sSet, sNil, sExpr, sRet, sRetN, sIf, sNo, sPut, Dn.sFld, Dn.sFldAdd, sAug, eVar, eC, Dn.e1, Dn.e2, aNil, aCons, eTup, eLst, eCall, tE, tBl, Dn.tNot, Dn.tAnd, Dn.tOr, Dn.tYes, eIf, eAnd, eOr, eNot, eChain, eB, on1, on2, bLen, fLen, bIsi, fIsi, tyOf, isT, bAll, fAll, bAny, fAny, bStr, fStr, bInt, fInt, bAbs, fAbs, bMin, fMin, bTuple, fTuple, bList, fList, opAdd, opSub, opMul, opDiv, opMod, opPow, opNeg, opItem, opSlice, eSlice, oNone, oSome, opAddI, cEq, cNe, cLt, cLe, cGt, cGe, cIn, keyD, truth, deref, Dn.gName, Dn.gNil, Dn.gCons, Dn.gTup, Dn.gStar, R.bind_ok, R.bind_no, R.thenS_ok, R.thenS_no, RS.next_nx, RS.next_rt, RS.next_no, onG_ok, eFld, fget, fput, insOf, setF, eMeth, eBM, eBM0, tyD, mAppend, mPop, mExtend, mJoin, mFind, Dn.m0, Dn.m1, Dn.m2, eBox, eFrz, eMake, big, onB a _ "take" (by decide) (by decide), t1, k_ALONE, flatD, eqv_ss, eqv_ii, eqv_bb, eqv_tt, eqv_ll, eqv_ts, eqv_st, eqvL_nn, eqvL_nc, eqvL_cn, eqvL_cc, S_beq, toD, toks]
    | @box x hx =>
      obtain ⟨n1, d1⟩ := nxt_of (show T.drop k = (S "word", x) :: rest from ed)
      have t1 := takeA a n1
      obtain ⟨ca, cc⟩ := name_not hx
      obtain ⟨e1, e2⟩ := ends_not d1 en
      have i1 := nextA a (k + 1) (S "sign") (S "(")
      have i2 := nextA a (k + 1) (S "sign") (S "[")
      simp only [e1, e2, decide_false] at i1 i2
      simp [run, start, sSeq, sSet, sNil, sExpr, sRet, sRetN, sIf, sNo, sPut, Dn.sFld, Dn.sFldAdd, sAug, eVar, eC, Dn.e1, Dn.e2, aNil, aCons, eTup, eLst, eCall, tE, tBl, Dn.tNot, Dn.tAnd, Dn.tOr, Dn.tYes, eIf, eAnd, eOr, eNot, eChain, eB, on1, on2, bLen, fLen, bIsi, fIsi, tyOf, isT, bAll, fAll, bAny, fAny, bStr, fStr, bInt, fInt, bAbs, fAbs, bMin, fMin, bTuple, fTuple, bList, fList, opAdd, opSub, opMul, opDiv, opMod, opPow, opNeg, opItem, opSlice, eSlice, oNone, oSome, opAddI, cEq, cNe, cLt, cLe, cGt, cGe, keyD, truth, deref, Dn.gName, Dn.gNil, Dn.gCons, Dn.gTup, Dn.gStar, R.bind_ok, R.bind_no, R.thenS_ok, R.thenS_no, RS.next_nx, RS.next_rt, RS.next_no, onG_ok, eFld, fget, fput, insOf, setF, eMeth, eBM, eBM0, tyD, mAppend, mPop, mExtend, mJoin, mFind, Dn.m0, Dn.m1, Dn.m2, eBox, eFrz, eMake, big, onB a _ "take" (by decide) (by decide), onB a _ "is_next" (by decide) (by decide), t1, ca, cc, i1, i2, toD, toks]
    | @cell x b hx =>
      have ed' : T.drop k = (S "word", x) :: ((S "sign", S "[") :: (toks b ++ (S "sign", S "]") :: rest)) := by rw [ed]; simp [toks]
      obtain ⟨n1, d1⟩ := nxt_of ed'
      obtain ⟨n2, d2⟩ := nxt_of d1
      have t1 := takeA a n1
      obtain ⟨ca, cc⟩ := name_not hx
      have i1 := nextA a (k + 1) (S "sign") (S "(")
      have i2 := nextA a (k + 1) (S "sign") (S "[")
      have ne : ((S "sign", S "[") : Tk) ≠ (S "sign", S "(") := by decide
      simp only [n2, ne, decide_false, decide_true] at i1 i2
      have p := placed_eq (r b (by simp [kids])) (a.mv (k + 1)) d1
      rw [mv_mv, mv_mv] at p
      push_cast at p
      have l : k + (toks (.cell x b)).length = k + 1 + 1 + (toks b).length + 1 := by simp [toks]; omega
      rw [l]
      simp [run, start, sSeq, sSet, sNil, sExpr, sRet, sRetN, sIf, sNo, sPut, Dn.sFld, Dn.sFldAdd, sAug, eVar, eC, Dn.e1, Dn.e2, aNil, aCons, eTup, eLst, eCall, tE, tBl, Dn.tNot, Dn.tAnd, Dn.tOr, Dn.tYes, eIf, eAnd, eOr, eNot, eChain, eB, on1, on2, bLen, fLen, bIsi, fIsi, tyOf, isT, bAll, fAll, bAny, fAny, bStr, fStr, bInt, fInt, bAbs, fAbs, bMin, fMin, bTuple, fTuple, bList, fList, opAdd, opSub, opMul, opDiv, opMod, opPow, opNeg, opItem, opSlice, eSlice, oNone, oSome, opAddI, cEq, cNe, cLt, cLe, cGt, cGe, keyD, truth, deref, Dn.gName, Dn.gNil, Dn.gCons, Dn.gTup, Dn.gStar, R.bind_ok, R.bind_no, R.thenS_ok, R.thenS_no, RS.next_nx, RS.next_rt, RS.next_no, onG_ok, eFld, fget, fput, insOf, setF, eMeth, eBM, eBM0, tyD, mAppend, mPop, mExtend, mJoin, mFind, Dn.m0, Dn.m1, Dn.m2, eBox, eFrz, eMake, big, onB a _ "take" (by decide) (by decide), onB a _ "is_next" (by decide) (by decide), onB a _ "placed" (by decide) (by decide), t1, ca, cc, i1, i2, p, toD]
    | @fit x b hx =>
      have ed' : T.drop k = (S "word", x) :: ((S "sign", S "(") :: (toks b ++ (S "sign", S ")") :: rest)) := by rw [ed]; simp [toks]
      obtain ⟨n1, d1⟩ := nxt_of ed'
      obtain ⟨n2, d2⟩ := nxt_of d1
      have t1 := takeA a n1
      obtain ⟨ca, cc⟩ := name_not hx
      have i1 := nextA a (k + 1) (S "sign") (S "(")
      simp only [n2, decide_true] at i1
      have hb : dep b ≤ 50 := by
        simp only [dep] at hd
        omega
      have p := within1_eq (r b (by simp [kids])) g.2 hb a (k + 1) d1
      push_cast at p
      have l : k + (toks (.fit x b)).length = k + 1 + 1 + (toks b).length + 1 := by simp [toks]; omega
      rw [l]
      simp [run, start, sSeq, sSet, sNil, sExpr, sRet, sRetN, sIf, sNo, sPut, Dn.sFld, Dn.sFldAdd, sAug, eVar, eC, Dn.e1, Dn.e2, aNil, aCons, eTup, eLst, eCall, tE, tBl, Dn.tNot, Dn.tAnd, Dn.tOr, Dn.tYes, eIf, eAnd, eOr, eNot, eChain, eB, on1, on2, bLen, fLen, bIsi, fIsi, tyOf, isT, bAll, fAll, bAny, fAny, bStr, fStr, bInt, fInt, bAbs, fAbs, bMin, fMin, bTuple, fTuple, bList, fList, opAdd, opSub, opMul, opDiv, opMod, opPow, opNeg, opItem, opSlice, eSlice, oNone, oSome, opAddI, cEq, cNe, cLt, cLe, cGt, cGe, keyD, truth, deref, Dn.gName, Dn.gNil, Dn.gCons, Dn.gTup, Dn.gStar, R.bind_ok, R.bind_no, R.thenS_ok, R.thenS_no, RS.next_nx, RS.next_rt, RS.next_no, onG_ok, eFld, fget, fput, insOf, setF, eMeth, eBM, eBM0, tyD, mAppend, mPop, mExtend, mJoin, mFind, Dn.m0, Dn.m1, Dn.m2, eBox, eFrz, eMake, big, onB a _ "take" (by decide) (by decide), onB a _ "is_next" (by decide) (by decide), onB a _ "within" (by decide) (by decide), t1, ca, cc, i1, p, toD, atIx, ixN]
    | @one w b hw =>
      have ed' : T.drop k = (S "word", w) :: ((S "sign", S "(") :: (toks b ++ (S "sign", S ")") :: rest)) := by rw [ed]; simp [toks]
      obtain ⟨n1, d1⟩ := nxt_of ed'
      have t1 := takeA a n1
      have hb : dep b ≤ 50 := by
        simp only [dep] at hd
        omega
      have p := within1_eq (r b (by simp [kids])) g.2 hb a (k + 1) d1
      push_cast at p
      have l : k + (toks (.one w b)).length = k + 1 + 1 + (toks b).length + 1 := by simp [toks]; omega
      rw [l]
      simp only [W1, List.mem_cons, List.not_mem_nil, or_false] at hw
      rcases hw with rfl | rfl <;> simp [run, start, sSeq, sSet, sNil, sExpr, sRet, sRetN, sIf, sNo, sPut, Dn.sFld, Dn.sFldAdd, sAug, eVar, eC, Dn.e1, Dn.e2, aNil, aCons, eTup, eLst, eCall, tE, tBl, Dn.tNot, Dn.tAnd, Dn.tOr, Dn.tYes, eIf, eAnd, eOr, eNot, eChain, eB, on1, on2, bLen, fLen, bIsi, fIsi, tyOf, isT, bAll, fAll, bAny, fAny, bStr, fStr, bInt, fInt, bAbs, fAbs, bMin, fMin, bTuple, fTuple, bList, fList, opAdd, opSub, opMul, opDiv, opMod, opPow, opNeg, opItem, opSlice, eSlice, oNone, oSome, opAddI, cEq, cNe, cLt, cLe, cGt, cGe, cIn, keyD, truth, deref, Dn.gName, Dn.gNil, Dn.gCons, Dn.gTup, Dn.gStar, R.bind_ok, R.bind_no, R.thenS_ok, R.thenS_no, RS.next_nx, RS.next_rt, RS.next_no, onG_ok, eFld, fget, fput, insOf, setF, eMeth, eBM, eBM0, tyD, mAppend, mPop, mExtend, mJoin, mFind, Dn.m0, Dn.m1, Dn.m2, eBox, eFrz, eMake, big, onB a _ "take" (by decide) (by decide), onB a _ "within" (by decide) (by decide), t1, k_ALONE, k_CALLED, dget, S_inj, flatD, eqv_ss, eqv_ii, eqv_bb, eqv_tt, eqv_ll, eqv_ts, eqv_st, eqvL_nn, eqvL_nc, eqvL_cn, eqvL_cc, S_beq, p, toD]
    | @part x y z =>
      have ed' : T.drop k = (S "word", S "part") :: ((S "sign", S "(") :: (toks x ++ (S "sign", S ",") :: (toks y ++ (S "sign", S ",") :: (toks z ++ (S "sign", S ")") :: rest)))) := by rw [ed]; simp [toks]
      obtain ⟨n1, d1⟩ := nxt_of ed'
      have t1 := takeA a n1
      simp only [dep] at hd
      have p := within3_eq (r x (by simp [kids])) (r y (by simp [kids])) (r z (by simp [kids])) (by omega) (by omega) (by omega) a (k + 1) d1
      push_cast at p
      have l : k + (toks (.part x y z)).length = k + 1 + 1 + (toks x).length + 1 + (toks y).length + 1 + (toks z).length + 1 := by simp [toks]; omega
      rw [l]
      simp [run, start, sSeq, sSet, sNil, sExpr, sRet, sRetN, sIf, sNo, sPut, Dn.sFld, Dn.sFldAdd, sAug, eVar, eC, Dn.e1, Dn.e2, aNil, aCons, eTup, eLst, eCall, tE, tBl, Dn.tNot, Dn.tAnd, Dn.tOr, Dn.tYes, eIf, eAnd, eOr, eNot, eChain, eB, on1, on2, bLen, fLen, bIsi, fIsi, tyOf, isT, bAll, fAll, bAny, fAny, bStr, fStr, bInt, fInt, bAbs, fAbs, bMin, fMin, bTuple, fTuple, bList, fList, opAdd, opSub, opMul, opDiv, opMod, opPow, opNeg, opItem, opSlice, eSlice, oNone, oSome, opAddI, cEq, cNe, cLt, cLe, cGt, cGe, cIn, keyD, truth, deref, Dn.gName, Dn.gNil, Dn.gCons, Dn.gTup, Dn.gStar, R.bind_ok, R.bind_no, R.thenS_ok, R.thenS_no, RS.next_nx, RS.next_rt, RS.next_no, onG_ok, eFld, fget, fput, insOf, setF, eMeth, eBM, eBM0, tyD, mAppend, mPop, mExtend, mJoin, mFind, Dn.m0, Dn.m1, Dn.m2, eBox, eFrz, eMake, big, onB a _ "take" (by decide) (by decide), onB a _ "within" (by decide) (by decide), t1, k_ALONE, k_CALLED, dget, S_inj, flatD, eqv_ss, eqv_ii, eqv_bb, eqv_tt, eqv_ll, eqv_ts, eqv_st, eqvL_nn, eqvL_nc, eqvL_cn, eqvL_cc, S_beq, p, toD]
  show trim _ _ = _
  rw [x, trim_len (by rw [mv_len, mv_len])]
/-- to a depth -/
noncomputable def A_expr : Nat → Fn
  | 0 => fun _ _ => .no
  | m + 1 => tr 4 (g_Reading_expression A_refuse_unless A_look A_counted A_take (A_of_two (A_expr m)) (A_called (A_expr m)))
theorem word_sign : (S "word" == S "figures") = false ∧ (S "word" == S "text") = false ∧ (S "word" == S "sign") = false ∧ (S "sign" == S "figures") = false ∧ (S "sign" == S "text") = false ∧ (S "text" == S "figures") = false := by decide
theorem expr_reads : ∀ (m : Nat) (e : Ex), good e → dep e ≤ m → ∀ d : Nat, d + dep e ≤ 9 → Reads (A_expr m) e d
  | 0, e, g, hm, d, hd => by cases e <;> simp [dep] at hm
  | m + 1, e, g, hm, d, hd => by
    intro h n T k rest a ed en
    have h8 : (d : Int) ≤ 8 := by
      have : 1 ≤ dep e := by cases e <;> simp [dep]
      omega
    have ih : ∀ q ∈ kids e, Reads (A_expr m) q (d + 1) := fun q hq => expr_reads m q (good_kids g hq) (by have := dep_kids hq; omega) (d + 1) (by have := dep_kids hq; omega)
    have lk := look_eq a
    have on : ∀ (s : String) (r : R D), s ≠ "rest" → s ≠ "spot" → onIns "Reading" s (.loc n) h r = r := fun s r h1 h2 => onI a s h1 h2 r
    have o1 := fun r => on "look" r (by decide) (by decide)
    have o2 := fun r => on "counted" r (by decide) (by decide)
    have o3 := fun r => on "take" r (by decide) (by decide)
    have o4 := fun r => on "of_two" r (by decide) (by decide)
    have o5 := fun r => on "called" r (by decide) (by decide)
    have goal : run 4 (g_Reading_expression A_refuse_unless A_look A_counted A_take (A_of_two (A_expr m)) (A_called (A_expr m))) [.loc n, .int d] h = .ok (toD e) (mv h n T (k + (toks e).length)) := by
      have cl : Called e → run 4 (g_Reading_expression A_refuse_unless A_look A_counted A_take (A_of_two (A_expr m)) (A_called (A_expr m))) [.loc n, .int d] h = .ok (toD e) (mv h n T (k + (toks e).length)) := fun c => by
        have hw : ∃ w r, toks e = (S "word", w) :: r := by cases c <;> exact ⟨_, _, rfl⟩
        obtain ⟨w, r, ew⟩ := hw
        have n1 := (nxt_of (show T.drop k = (S "word", w) :: (r ++ rest) by rw [ed, ew]; rfl)).1
        rw [n1] at lk
        have q := called_eq c g (by omega) ih a ed en
        rw [mv_self a] at q
        unfold g_Reading_expression
        simp [run, start, sSeq, sSet, sNil, sExpr, sRet, sRetN, sIf, sNo, sPut, Dn.sFld, Dn.sFldAdd, sAug, eVar, eC, Dn.e1, Dn.e2, aNil, aCons, eTup, eLst, eCall, tE, tBl, Dn.tNot, Dn.tAnd, Dn.tOr, Dn.tYes, eIf, eAnd, eOr, eNot, eChain, eB, on1, on2, bLen, fLen, bIsi, fIsi, tyOf, isT, bAll, fAll, bAny, fAny, bStr, fStr, bInt, fInt, bAbs, fAbs, bMin, fMin, bTuple, fTuple, bList, fList, opAdd, opSub, opMul, opDiv, opMod, opPow, opNeg, opItem, opSlice, eSlice, oNone, oSome, opAddI, cEq, cNe, cLt, cLe, cGt, cGe, cIn, keyD, truth, deref, Dn.gName, Dn.gNil, Dn.gCons, Dn.gTup, Dn.gStar, R.bind_ok, R.bind_no, R.thenS_ok, R.thenS_no, RS.next_nx, RS.next_rt, RS.next_no, onG_ok, eFld, fget, fput, insOf, setF, eMeth, eBM, eBM0, tyD, mAppend, mPop, mExtend, mJoin, mFind, Dn.m0, Dn.m1, Dn.m2, eBox, eFrz, eMake, big, o1, o5, lk, tD, k_DEEPEST, h8, refuse_ok, isData, eqv_ss, eqv_ii, eqv_bb, eqv_tt, eqv_ll, eqv_ts, eqv_st, eqvL_nn, eqvL_nc, eqvL_cn, eqvL_cc, S_beq, q]
      cases e with
      | num v =>
        have n1 := (nxt_of (show T.drop k = (S "figures", natT v) :: rest from ed)).1
        rw [n1] at lk
        have q := counted_eq a g n1
        unfold g_Reading_expression
        simp [run, start, sSeq, sSet, sNil, sExpr, sRet, sRetN, sIf, sNo, sPut, Dn.sFld, Dn.sFldAdd, sAug, eVar, eC, Dn.e1, Dn.e2, aNil, aCons, eTup, eLst, eCall, tE, tBl, Dn.tNot, Dn.tAnd, Dn.tOr, Dn.tYes, eIf, eAnd, eOr, eNot, eChain, eB, on1, on2, bLen, fLen, bIsi, fIsi, tyOf, isT, bAll, fAll, bAny, fAny, bStr, fStr, bInt, fInt, bAbs, fAbs, bMin, fMin, bTuple, fTuple, bList, fList, opAdd, opSub, opMul, opDiv, opMod, opPow, opNeg, opItem, opSlice, eSlice, oNone, oSome, opAddI, cEq, cNe, cLt, cLe, cGt, cGe, cIn, keyD, truth, deref, Dn.gName, Dn.gNil, Dn.gCons, Dn.gTup, Dn.gStar, R.bind_ok, R.bind_no, R.thenS_ok, R.thenS_no, RS.next_nx, RS.next_rt, RS.next_no, onG_ok, eFld, fget, fput, insOf, setF, eMeth, eBM, eBM0, tyD, mAppend, mPop, mExtend, mJoin, mFind, Dn.m0, Dn.m1, Dn.m2, eBox, eFrz, eMake, big, o1, o2, lk, tD, k_DEEPEST, h8, refuse_ok, isData, eqv_ss, eqv_ii, eqv_bb, eqv_tt, eqv_ll, eqv_ts, eqv_st, eqvL_nn, eqvL_nc, eqvL_cn, eqvL_cc, S_beq, q, toD, toks]
      | txt t =>
        have n1 := (nxt_of (show T.drop k = (S "text", S "\"" ++ t ++ S "\"") :: rest from ed)).1
        rw [n1] at lk
        have q := take_eq a _ _ n1
        have sq := slc_quote t
        unfold g_Reading_expression
        simp [run, start, sSeq, sSet, sNil, sExpr, sRet, sRetN, sIf, sNo, sPut, Dn.sFld, Dn.sFldAdd, sAug, eVar, eC, Dn.e1, Dn.e2, aNil, aCons, eTup, eLst, eCall, tE, tBl, Dn.tNot, Dn.tAnd, Dn.tOr, Dn.tYes, eIf, eAnd, eOr, eNot, eChain, eB, on1, on2, bLen, fLen, bIsi, fIsi, tyOf, isT, bAll, fAll, bAny, fAny, bStr, fStr, bInt, fInt, bAbs, fAbs, bMin, fMin, bTuple, fTuple, bList, fList, opAdd, opSub, opMul, opDiv, opMod, opPow, opNeg, opItem, opSlice, eSlice, oNone, oSome, opAddI, cEq, cNe, cLt, cLe, cGt, cGe, cIn, keyD, truth, deref, Dn.gName, Dn.gNil, Dn.gCons, Dn.gTup, Dn.gStar, R.bind_ok, R.bind_no, R.thenS_ok, R.thenS_no, RS.next_nx, RS.next_rt, RS.next_no, onG_ok, eFld, fget, fput, insOf, setF, eMeth, eBM, eBM0, tyD, mAppend, mPop, mExtend, mJoin, mFind, Dn.m0, Dn.m1, Dn.m2, eBox, eFrz, eMake, big, o1, o3, lk, tD, k_DEEPEST, h8, refuse_ok, isData, eqv_ss, eqv_ii, eqv_bb, eqv_tt, eqv_ll, eqv_ts, eqv_st, eqvL_nn, eqvL_nc, eqvL_cn, eqvL_cc, S_beq, q, sq, toD, toks, -List.append_assoc]
      | two op x y =>
        have n1 := (nxt_of (show T.drop k = (S "sign", S "(") :: (toks x ++ (opK op, op) :: (toks y ++ [(S "sign", S ")")]) ++ rest) by rw [ed]; simp [toks])).1
        rw [n1] at lk
        have q := of_two_eq g.1 (ih x (by simp [kids])) (ih y (by simp [kids])) a ed
        rw [mv_self a] at q
        push_cast at q
        unfold g_Reading_expression
        simp [run, start, sSeq, sSet, sNil, sExpr, sRet, sRetN, sIf, sNo, sPut, Dn.sFld, Dn.sFldAdd, sAug, eVar, eC, Dn.e1, Dn.e2, aNil, aCons, eTup, eLst, eCall, tE, tBl, Dn.tNot, Dn.tAnd, Dn.tOr, Dn.tYes, eIf, eAnd, eOr, eNot, eChain, eB, on1, on2, bLen, fLen, bIsi, fIsi, tyOf, isT, bAll, fAll, bAny, fAny, bStr, fStr, bInt, fInt, bAbs, fAbs, bMin, fMin, bTuple, fTuple, bList, fList, opAdd, opSub, opMul, opDiv, opMod, opPow, opNeg, opItem, opSlice, eSlice, oNone, oSome, opAddI, cEq, cNe, cLt, cLe, cGt, cGe, cIn, keyD, truth, deref, Dn.gName, Dn.gNil, Dn.gCons, Dn.gTup, Dn.gStar, R.bind_ok, R.bind_no, R.thenS_ok, R.thenS_no, RS.next_nx, RS.next_rt, RS.next_no, onG_ok, eFld, fget, fput, insOf, setF, eMeth, eBM, eBM0, tyD, mAppend, mPop, mExtend, mJoin, mFind, Dn.m0, Dn.m1, Dn.m2, eBox, eFrz, eMake, big, o1, o4, lk, tD, k_DEEPEST, h8, refuse_ok, isData, eqv_ss, eqv_ii, eqv_bb, eqv_tt, eqv_ll, eqv_ts, eqv_st, eqvL_nn, eqvL_nc, eqvL_cn, eqvL_cc, S_beq, q]
      | box x => exact cl (.box g)
      | cell x b => exact cl (.cell g.1)
      | fit x b => exact cl (.fit g.1)
      | one w b => exact cl (.one g.1)
      | part x y z => exact cl .part
      | alone w => exact cl (.alone g)
    show trim _ _ = _
    rw [goal, trim_len (mv_len _ _ _ _)]
end Dk75

/-! text Dk75y -/
set_option maxHeartbeats 1000000
set_option Elab.async false
set_option linter.all false
set_option maxRecDepth 100000
set_option autoImplicit false
set_option maxHeartbeats 8000000
/-! k75: read_expression. -/
namespace Dk75
open Dn
noncomputable def A_init : Fn := tr 2 g_Reading_init__
theorem init_eq (h : Hh) (T : List Tk) : A_init [.loc h.length, .lst (T.map tD)] (h ++ [some (.ins "Reading" [] [])]) = .ok .non (h ++ [some (rd T 0)]) := by
  have x : run 2 g_Reading_init__ [.loc h.length, .lst (T.map tD)] (h ++ [some (.ins "Reading" [] [])]) = .ok .non (h ++ [some (rd T 0)]) := by
    unfold g_Reading_init__
    simp [run, start, sSeq, sSet, sNil, sExpr, sRet, sRetN, sIf, sNo, sPut, Dn.sFld, Dn.sFldAdd, sAug, eVar, eC, Dn.e1, Dn.e2, aNil, aCons, eTup, eLst, eCall, tE, tBl, Dn.tNot, Dn.tAnd, Dn.tOr, Dn.tYes, eIf, eAnd, eOr, eNot, eChain, eB, on1, on2, bLen, fLen, bIsi, fIsi, tyOf, isT, bAll, fAll, bAny, fAny, bStr, fStr, bInt, fInt, bAbs, fAbs, bMin, fMin, bTuple, fTuple, bList, fList, opAdd, opSub, opMul, opDiv, opMod, opPow, opNeg, opItem, opSlice, eSlice, oNone, oSome, opAddI, cEq, cNe, cLt, cLe, cGt, cGe, cIn, keyD, truth, deref, Dn.gName, Dn.gNil, Dn.gCons, Dn.gTup, Dn.gStar, R.bind_ok, R.bind_no, R.thenS_ok, R.thenS_no, RS.next_nx, RS.next_rt, RS.next_no, onG_ok, eFld, fget, fput, insOf, setF, eMeth, onIns, eBM, eBM0, tyD, mAppend, mPop, mExtend, mJoin, mFind, Dn.m0, Dn.m1, Dn.m2, eBox, eFrz, eMake, big, at_last, set_last, rd]
  show trim _ _ = _
  rw [x, trim_len (by simp)]
noncomputable def A_read : Fn := tr 2 (g_read_expression A_init A_tokens (A_expr 9) A_refuse_unless A_is_expression (A_show 9))
theorem read_eq (e : Ex) (g : good e) (l : legal e = true) (h : Hh) : A_read [.str (shw e)] h = .ok (toD e) h := by
  have hd := legal_dep l
  have tk := tokens_eq e g (by omega) h
  have ini := init_eq h (toks e)
  have a : At (h ++ [some (rd (toks e) 0)]) h.length (toks e) 0 := at_last _ _
  have r := expr_reads 9 e g (by omega) 1 (by omega) _ _ _ 0 [] a (by simp) (fun x hx => by simp at hx)
  have m : mv (h ++ [some (rd (toks e) 0)]) h.length (toks e) (0 + (toks e).length) = h ++ [some (rd (toks e) (0 + (toks e).length))] := set_last _ _ _
  rw [m] at r
  have ise := is_expression_eq e g (by omega) (h ++ [some (rd (toks e) (0 + (toks e).length))])
  rw [l] at ise
  have sh := show_eq 9 e g (by omega) (by omega) (h ++ [some (rd (toks e) (0 + (toks e).length))])
  have on : ∀ rr : R D, onIns "Reading" "expression" (.loc h.length) (h ++ [some (rd (toks e) 0)]) rr = rr := fun rr => onI a "expression" (by decide) (by decide) rr
  have x : run 2 (g_read_expression A_init A_tokens (A_expr 9) A_refuse_unless A_is_expression (A_show 9)) [.str (shw e)] h = .ok (toD e) (h ++ [some (rd (toks e) (0 + (toks e).length))]) := by
    unfold g_read_expression
    have r' := r
    push_cast at r'
    simp only [Nat.zero_add] at r' ise sh ⊢
    simp [run, start, sSeq, sSet, sNil, sExpr, sRet, sRetN, sIf, sNo, sPut, Dn.sFld, Dn.sFldAdd, sAug, eVar, eC, Dn.e1, Dn.e2, aNil, aCons, eTup, eLst, eCall, tE, tBl, Dn.tNot, Dn.tAnd, Dn.tOr, Dn.tYes, eIf, eAnd, eOr, eNot, eChain, eB, on1, on2, bLen, fLen, bIsi, fIsi, tyOf, isT, bAll, fAll, bAny, fAny, bStr, fStr, bInt, fInt, bAbs, fAbs, bMin, fMin, bTuple, fTuple, bList, fList, opAdd, opSub, opMul, opDiv, opMod, opPow, opNeg, opItem, opSlice, eSlice, oNone, oSome, opAddI, cEq, cNe, cLt, cLe, cGt, cGe, cIn, keyD, truth, deref, Dn.gName, Dn.gNil, Dn.gCons, Dn.gTup, Dn.gStar, R.bind_ok, R.bind_no, R.thenS_ok, R.thenS_no, RS.next_nx, RS.next_rt, RS.next_no, onG_ok, eFld, fget, fput, insOf, setF, eMeth, eBM, eBM0, tyD, mAppend, mPop, mExtend, mJoin, mFind, Dn.m0, Dn.m1, Dn.m2, eBox, eFrz, eMake, big, tk, ini, on, r', ise, sh, isData, eqv_ss, eqv_ii, eqv_bb, eqv_tt, eqv_ll, eqv_ts, eqv_st, eqvL_nn, eqvL_nc, eqvL_cn, eqvL_cc, refuse_ok]
  show trim _ _ = _
  rw [x]
  exact trim_app (isData_below (n := 60) _ _ (data_toD e 60 (by omega)))
end Dk75

/-! text Dk75z -/
set_option maxHeartbeats 1000000
set_option Elab.async false
set_option linter.all false
set_option maxRecDepth 100000
set_option autoImplicit false
set_option maxHeartbeats 8000000
/-! k75: the pen. -/
namespace Dk75
open Dn
def pen (C : List Int) (a l : Nat) : O := .dic [.s (S "cells"), .s (S "at"), .s (S "left")] [.lst (C.map D.int), .int a, .int l]
def PenAt (h : Hh) (n : Nat) (C : List Int) (a l : Nat) : Prop := h[n]? = some (some (pen C a l))
def mvp (h : Hh) (n : Nat) (C : List Int) (a l : Nat) : Hh := h.set n (some (pen C a l))
theorem PenAt.lt {h : Hh} {n : Nat} {C : List Int} {a l : Nat} (p : PenAt h n C a l) : n < h.length := by
  unfold PenAt at p
  by_cases z : n < h.length
  · exact z
  · rw [List.getElem?_eq_none (by omega)] at p
    cases p
theorem PenAt.mvp {h : Hh} {n : Nat} {C : List Int} {a l : Nat} (p : PenAt h n C a l) (a' l' : Nat) : PenAt (mvp h n C a' l') n C a' l' := by
  unfold PenAt Dk75.mvp
  rw [List.getElem?_set_self p.lt]
theorem mvp_mvp (h : Hh) (n : Nat) (C : List Int) (a l a' l' : Nat) : mvp (mvp h n C a l) n C a' l' = mvp h n C a' l' := by simp [mvp]
theorem mvp_len (h : Hh) (n : Nat) (C : List Int) (a l : Nat) : (mvp h n C a l).length = h.length := by simp [mvp]
section
variable {h : Hh} {n : Nat} {C : List Int} {a l : Nat} (p : PenAt h n C a l)
include p
theorem pen_cells : opItem (.loc n) (.str (S "cells")) h = .ok (.lst (C.map D.int)) h := by
  have p' : h[n]? = some (some (.dic [.s (S "cells"), .s (S "at"), .s (S "left")] [.lst (C.map D.int), .int a, .int l])) := p
  simp [opItem, p', keyD, dget]
theorem pen_at : opItem (.loc n) (.str (S "at")) h = .ok (.int a) h := by
  have p' : h[n]? = some (some (.dic [.s (S "cells"), .s (S "at"), .s (S "left")] [.lst (C.map D.int), .int a, .int l])) := p
  simp [opItem, p', keyD, dget, S_inj]
theorem pen_left : opItem (.loc n) (.str (S "left")) h = .ok (.int l) h := by
  have p' : h[n]? = some (some (.dic [.s (S "cells"), .s (S "at"), .s (S "left")] [.lst (C.map D.int), .int a, .int l])) := p
  simp [opItem, p', keyD, dget, S_inj]
theorem put_left (l' : Nat) : setK (.loc n) (.str (S "left")) (.int l') h = .ok .non (mvp h n C a l') := by
  have p' : h[n]? = some (some (.dic [.s (S "cells"), .s (S "at"), .s (S "left")] [.lst (C.map D.int), .int a, .int l])) := p
  simp [setK, p', keyD, dput, S_inj, mvp, pen, big]
theorem put_at (a' : Nat) : setK (.loc n) (.str (S "at")) (.int a') h = .ok .non (mvp h n C a' l) := by
  have p' : h[n]? = some (some (.dic [.s (S "cells"), .s (S "at"), .s (S "left")] [.lst (C.map D.int), .int a, .int l])) := p
  simp [setK, p', keyD, dput, S_inj, mvp, pen, big]
end
def dLast : DS :=
  (sSeq (sSet (e2 opMod (e2 opPow (e2 opAdd (e2 opAdd (e2 opMod (eVar 3) (eC (.int 2147483543))) (e2 opMul (eC (.int 69001)) (eVar 2))) (eC (.int 83))) (eC (.int 5))) (eC (.int 2147483647))) (Dn.gName 4))
  (sSeq (sSet (e2 opMod (e2 opPow (e2 opAdd (e2 opMul (eVar 4) (e2 opAdd (eVar 2) (eC (.int 65551)))) (e2 opMul (e2 opMul (eC (.int 86011)) (eVar 2)) (eVar 2))) (eC (.int 3))) (eC (.int 2147483353))) (Dn.gName 5))
  (sRet (e2 opMod (e2 opDiv (eVar 5) (eC (.int 32))) (eVar 1)))))
theorem pow_ok (x : Int) (j : Nat) (hj : j ≤ 1000000) (b : x.natAbs < 2 ^ 64) (h : Hh) : opPow (.int x) (.int j) h = .ok (.int (x ^ j)) h := by
  show (if 0 ≤ (j : Int) ∧ (j : Int) ≤ 1000000 ∧ x.natAbs < 2 ^ 64 then R.ok (D.int (x ^ (j : Int).toNat)) h else R.no) = _
  rw [if_pos ⟨by omega, by omega, b⟩]
  rfl
theorem mul_ok (x y : Int) (w : (word64 x || word64 y) = true) (h : Hh) : opMul (.int x) (.int y) h = .ok (.int (x * y)) h := by
  show (if (word64 x || word64 y) = true then R.ok (D.int (x * y)) h else R.no) = _
  rw [if_pos w]
theorem w64 {x : Int} (h1 : -(2 ^ 64) < x) (h2 : x < 2 ^ 64) : word64 x = true := by
  unfold word64
  rw [decide_eq_true h1, decide_eq_true h2]
  rfl
theorem mod_ok (x y : Int) (h : Hh) (z : 0 < y) : opMod (.int x) (.int y) h = .ok (.int (x % y)) h := by
  show (if 0 < y then R.ok (D.int (x % y)) h else R.no) = _
  rw [if_pos z]
theorem div_ok (x y : Int) (h : Hh) (z : 0 < y) (z2 : y < 1000) : opDiv (.int x) (.int y) h = .ok (.int (x / y)) h := by
  show (if 0 < y ∧ y < 2 ^ 8999 then R.ok (D.int (x / y)) h else R.no) = _
  have b : (1000 : Int) ≤ 2 ^ 8999 := by
    have n : (1000 : Nat) ≤ 2 ^ 8999 := Nat.le_trans (show 1000 ≤ 2 ^ 10 by decide) (Nat.pow_le_pow_right (by decide) (by decide))
    have i := Int.ofNat_le.mpr n
    rw [Int.natCast_pow] at i
    exact i
  rw [if_pos ⟨z, Int.lt_of_lt_of_le z2 b⟩]
/-- the figures of a draw -/
def one_ (cell : Int) (a : Nat) : Int := (cell % 2147483543 + 69001 * (a : Int) + 83) ^ 5 % 2147483647
def last_ (one : Int) (a : Nat) : Int := (one * ((a : Int) + 65551) + 86011 * (a : Int) * (a : Int)) ^ 3 % 2147483353
theorem one_le (cell : Int) (a : Nat) : 0 ≤ one_ cell a ∧ one_ cell a < 2147483647 := ⟨Int.emod_nonneg _ (by omega), Int.emod_lt_of_pos _ (by omega)⟩
theorem base1 (cell : Int) (a : Nat) (ha : a ≤ 1000000) : (cell % 2147483543 + 69001 * (a : Int) + 83).natAbs < 2 ^ 64 := by
  have c0 : 0 ≤ cell % 2147483543 := Int.emod_nonneg _ (by omega)
  have c1 : cell % 2147483543 < 2147483543 := Int.emod_lt_of_pos _ (by omega)
  generalize cell % 2147483543 = c at c0 c1
  omega
theorem base2 (one : Int) (a : Nat) (ha : a ≤ 1000000) (d0 : 0 ≤ one) (d1 : one < 2147483647) : (one * ((a : Int) + 65551) + 86011 * (a : Int) * (a : Int)).natAbs < 2 ^ 64 := by
  have s1 : 0 ≤ one * ((a : Int) + 65551) := Int.mul_nonneg d0 (by omega)
  have s2 : one * ((a : Int) + 65551) ≤ 2147483647 * 1065551 := Int.mul_le_mul (by omega) (by omega) (by omega) (by omega)
  have s3 : 0 ≤ 86011 * (a : Int) * (a : Int) := Int.mul_nonneg (by omega) (by omega)
  have s4 : 86011 * (a : Int) * (a : Int) ≤ 86011 * 1000000 * 1000000 := Int.mul_le_mul (by omega) (by omega) (by omega) (by omega)
  generalize one * ((a : Int) + 65551) = u at s1 s2
  generalize 86011 * (a : Int) * (a : Int) = v at s3 s4
  omega
theorem dLast_gen (h : Hh) (n : Nat) (many at_ cell : Int) (o4 o5 o6 o7 : Option D) (c am s1 x5 one t1 u1 v1 v2 w3 last q res : Int)
    (h1 : ∀ hh : Hh, opMod (.int cell) (.int 2147483543) hh = .ok (.int c) hh) (h2 : ∀ hh : Hh, opMul (.int 69001) (.int at_) hh = .ok (.int am) hh) (h3 : c + am + 83 = s1)
    (h4 : ∀ hh : Hh, opPow (.int s1) (.int 5) hh = .ok (.int x5) hh) (h5 : ∀ hh : Hh, opMod (.int x5) (.int 2147483647) hh = .ok (.int one) hh)
    (h6 : at_ + 65551 = t1) (h7 : ∀ hh : Hh, opMul (.int one) (.int t1) hh = .ok (.int u1) hh) (h8 : ∀ hh : Hh, opMul (.int 86011) (.int at_) hh = .ok (.int v1) hh) (h9 : ∀ hh : Hh, opMul (.int v1) (.int at_) hh = .ok (.int v2) hh)
    (h10 : ∀ hh : Hh, opPow (.int (u1 + v2)) (.int 3) hh = .ok (.int w3) hh) (h11 : ∀ hh : Hh, opMod (.int w3) (.int 2147483353) hh = .ok (.int last) hh) (h12 : ∀ hh : Hh, opDiv (.int last) (.int 32) hh = .ok (.int q) hh)
    (h13 : ∀ hh : Hh, opMod (.int q) (.int many) hh = .ok (.int res) hh) : dLast [some (.loc n), some (.int many), some (.int at_), some (.int cell), o4, o5, o6, o7] h = .rt (.int res) h := by
  unfold dLast
  simp [run, start, sSeq, sSet, sNil, sExpr, sRet, sRetN, sIf, sNo, sPut, Dn.sFld, Dn.sFldAdd, sAug, eVar, eC, Dn.e1, Dn.e2, aNil, aCons, eTup, eLst, eCall, tE, tBl, Dn.tNot, Dn.tAnd, Dn.tOr, Dn.tYes, eIf, eAnd, eOr, eNot, eChain, eB, on1, on2, bLen, fLen, bIsi, fIsi, tyOf, isT, bAll, fAll, bAny, fAny, bStr, fStr, bInt, fInt, bAbs, fAbs, bMin, fMin, bTuple, fTuple, bList, fList, opAdd, opSub, opNeg, opItem, opSlice, eSlice, oNone, oSome, opAddI, cEq, cNe, cLt, cLe, cGt, cGe, cIn, keyD, truth, deref, Dn.gName, Dn.gNil, Dn.gCons, Dn.gTup, Dn.gStar, R.bind_ok, R.bind_no, R.thenS_ok, R.thenS_no, RS.next_nx, RS.next_rt, RS.next_no, onG_ok, eFld, fget, fput, insOf, setF, eMeth, onIns, eBM, eBM0, tyD, mAppend, mPop, mExtend, mJoin, mFind, Dn.m0, Dn.m1, Dn.m2, eBox, eFrz, eMake, big, h1, h2, h3, h4, h5, h6, h7, h8, h9, h10, h11, h12, h13]
theorem dLast_run (h : Hh) (n a many : Nat) (cell : Int) (o4 o5 o6 o7 : Option D) (ha : a ≤ 1000000) (hm : 0 < many) : ∃ last : Int, dLast [some (.loc n), some (.int many), some (.int a), some (.int cell), o4, o5, o6, o7] h = .rt (.int (last / 32 % many)) h := by
  obtain ⟨c, ec⟩ : ∃ c, cell % 2147483543 = c := ⟨_, rfl⟩
  have b1 := base1 cell a ha
  rw [ec] at b1
  obtain ⟨one, e1, d0, d1⟩ : ∃ one, (c + 69001 * (a : Int) + 83) ^ 5 % 2147483647 = one ∧ 0 ≤ one ∧ one < 2147483647 := ⟨_, rfl, Int.emod_nonneg _ (by omega), Int.emod_lt_of_pos _ (by omega)⟩
  have b2 := base2 one a ha d0 d1
  obtain ⟨last, e2⟩ : ∃ last, (one * ((a : Int) + 65551) + 86011 * (a : Int) * (a : Int)) ^ 3 % 2147483353 = last := ⟨_, rfl⟩
  refine ⟨last, dLast_gen h n many a cell o4 o5 o6 o7 c (69001 * (a : Int)) (c + 69001 * (a : Int) + 83) ((c + 69001 * (a : Int) + 83) ^ 5) one ((a : Int) + 65551) (one * ((a : Int) + 65551)) (86011 * (a : Int)) (86011 * (a : Int) * (a : Int)) ((one * ((a : Int) + 65551) + 86011 * (a : Int) * (a : Int)) ^ 3) last (last / 32) (last / 32 % many) ?_ ?_ rfl ?_ ?_ rfl ?_ ?_ ?_ ?_ ?_ ?_ ?_⟩
  · intro hh
    rw [mod_ok _ _ hh (by omega), ec]
  · intro hh
    rw [mul_ok 69001 (a : Int) (by rw [w64 (x := 69001) (by omega) (by omega), Bool.true_or]) hh]
  · intro hh
    exact pow_ok _ 5 (by omega) b1 hh
  · intro hh
    rw [mod_ok _ _ hh (by omega), e1]
  · intro hh
    rw [mul_ok one ((a : Int) + 65551) (by rw [w64 (x := (a : Int) + 65551) (by omega) (by omega), Bool.or_true]) hh]
  · intro hh
    rw [mul_ok 86011 (a : Int) (by rw [w64 (x := 86011) (by omega) (by omega), Bool.true_or]) hh]
  · intro hh
    rw [mul_ok (86011 * (a : Int)) (a : Int) (by rw [w64 (x := (a : Int)) (by omega) (by omega), Bool.or_true]) hh]
  · intro hh
    exact pow_ok _ 3 (by omega) b2 hh
  · intro hh
    rw [mod_ok _ _ hh (by omega), e2]
  · intro hh
    exact div_ok last 32 hh (by omega) (by omega)
  · intro hh
    exact mod_ok (last / 32) (many : Int) hh (by omega)
theorem dLast_eq (h : Hh) (n a many : Nat) (cell : Int) (o4 o5 o6 o7 : Option D) (ha : a ≤ 1000000) (hm : 0 < many) : ∃ v : Nat, v < many ∧ dLast [some (.loc n), some (.int many), some (.int a), some (.int cell), o4, o5, o6, o7] h = .rt (.int v) h := by
  obtain ⟨last, e⟩ := dLast_run h n a many cell o4 o5 o6 o7 ha hm
  have v0 : 0 ≤ last / 32 % (many : Int) := Int.emod_nonneg _ (by omega)
  have v1 : last / 32 % (many : Int) < many := Int.emod_lt_of_pos _ (by omega)
  generalize last / 32 % (many : Int) = v at e v0 v1
  refine ⟨v.toNat, by omega, ?_⟩
  rw [show ((v.toNat : Nat) : Int) = v by omega]
  exact e
end Dk75

/-! text Dk75za -/
set_option maxHeartbeats 1000000
set_option Elab.async false
set_option linter.all false
set_option maxRecDepth 100000
set_option autoImplicit false
set_option maxHeartbeats 8000000
/-! k75: a draw. -/
namespace Dk75
open Dn
def dWide : DS :=
  (sSeq (sSet (e2 opAdd (e2 opMul (eC (.int 2)) (eB bAbs (aCons (eVar 3) aNil))) (eB bInt (aCons (e2 cLt (eVar 3) (eC (.int 0))) aNil))) (Dn.gName 7))
  (sSeq (sPut (eVar 0) (eC (.str (S "left"))) (e2 opDiv (eVar 7) (eVar 1)))
  (sRet (e2 opMod (eVar 7) (eVar 1)))))
def dTail : DS := (sSeq (sIf (Dn.tAnd (tBl (e2 cLt (eVar 2) (eB bLen (aCons (e2 opItem (eVar 0) (eC (.str (S "cells")))) aNil)))) (tBl (e2 cGe (eB bAbs (aCons (eVar 3) aNil)) (e2 opPow (eC (.int 10)) (eC (.int 18)))))) dWide sNil) dLast)
def dHead : DS :=
  (sSeq (sIf (tBl (e2 cGt (e2 opItem (eVar 0) (eC (.str (S "left")))) (eC (.int 0))))
  (sSeq (sSet (e2 opMod (e2 opItem (eVar 0) (eC (.str (S "left")))) (eVar 1)) (Dn.gName 6))
  (sSeq (sPut (eVar 0) (eC (.str (S "left"))) (e2 opDiv (e2 opItem (eVar 0) (eC (.str (S "left")))) (eVar 1)))
  (sRet (eVar 6))))
  sNil)
  (sSeq (sSet (e2 opItem (eVar 0) (eC (.str (S "at")))) (Dn.gName 2))
  (sSeq (sPut (eVar 0) (eC (.str (S "at"))) (e2 opAdd (eVar 2) (eC (.int 1))))
  (sSeq (sSet (e2 opAdd (e2 opMul (eC (.int 1861)) (eVar 2)) (eC (.int 809))) (Dn.gName 3))
  (sSeq (sIf (tBl (e2 cNe (e2 opItem (eVar 0) (eC (.str (S "cells")))) (eLst aNil)))
  (sSet (e2 opItem (e2 opItem (eVar 0) (eC (.str (S "cells")))) (e2 opMod (eVar 2) (eB bLen (aCons (e2 opItem (eVar 0) (eC (.str (S "cells")))) aNil)))) (Dn.gName 3))
  sNil)
  dTail)))))
theorem draw_parts : g_l_draw = dHead := rfl
theorem dWide_eq {h : Hh} {n : Nat} {C : List Int} {a l : Nat} (p : PenAt h n C a l) (many : Nat) (cell : Int) (o2 o4 o5 o6 o7 : Option D) (hm : 0 < many) (hm2 : many < 1000) :
    ∃ v l' : Nat, v < many ∧ dWide [some (.loc n), some (.int many), o2, some (.int cell), o4, o5, o6, o7] h = .rt (.int v) (mvp h n C a l') := by
  obtain ⟨ab, eab, hab⟩ : ∃ ab : Nat, (if cell < 0 then -cell else cell) = (ab : Int) ∧ True := ⟨cell.natAbs, by split <;> omega, trivial⟩
  have m1 : ∀ hh : Hh, opMul (.int 2) (.int (ab : Int)) hh = .ok (.int (2 * (ab : Int))) hh := fun hh => mul_ok 2 (ab : Int) (by rw [w64 (x := 2) (by omega) (by omega), Bool.true_or]) hh
  obtain ⟨w, ew⟩ : ∃ w : Nat, 2 * (ab : Int) + (if cell < 0 then 1 else 0) = (w : Int) := ⟨2 * ab + (if cell < 0 then 1 else 0), by split <;> simp⟩
  have r : ∀ hh : Hh, opMod (.int (w : Int)) (.int (many : Int)) hh = .ok (.int ((w % many : Nat) : Int)) hh := fun hh => by rw [mod_ok _ _ hh (by omega), Int.natCast_emod]
  have q : ∀ hh : Hh, opDiv (.int (w : Int)) (.int (many : Int)) hh = .ok (.int ((w / many : Nat) : Int)) hh := fun hh => by rw [div_ok _ _ hh (by omega) (by omega), Int.natCast_ediv]
  refine ⟨w % many, w / many, Nat.mod_lt _ hm, ?_⟩
  have pl := put_left p (w / many)
  push_cast at pl r q ⊢
  unfold dWide
  by_cases z : cell < 0
  · simp only [z, if_true] at ew eab
    simp [run, start, sSeq, sSet, sNil, sExpr, sRet, sRetN, sIf, sNo, sPut, Dn.sFld, Dn.sFldAdd, sAug, eVar, eC, Dn.e1, Dn.e2, aNil, aCons, eTup, eLst, eCall, tE, tBl, Dn.tNot, Dn.tAnd, Dn.tOr, Dn.tYes, eIf, eAnd, eOr, eNot, eChain, eB, on1, on2, bLen, fLen, bIsi, fIsi, tyOf, isT, bAll, fAll, bAny, fAny, bStr, fStr, bInt, fInt, bAbs, fAbs, bMin, fMin, bTuple, fTuple, bList, fList, opAdd, opSub, opPow, opNeg, opItem, opSlice, eSlice, oNone, oSome, opAddI, cEq, cNe, cLt, cLe, cGt, cGe, cIn, keyD, truth, deref, Dn.gName, Dn.gNil, Dn.gCons, Dn.gTup, Dn.gStar, R.bind_ok, R.bind_no, R.thenS_ok, R.thenS_no, RS.next_nx, RS.next_rt, RS.next_no, onG_ok, eFld, fget, fput, insOf, setF, eMeth, onIns, eBM, eBM0, tyD, mAppend, mPop, mExtend, mJoin, mFind, Dn.m0, Dn.m1, Dn.m2, eBox, eFrz, eMake, big, z, eab, m1, ew, r, q, pl]
  · simp only [z, if_false] at ew eab
    subst eab
    have zf : ((ab : Int) < 0) = False := eq_false z
    have ew2 : 2 * (ab : Int) = (w : Int) := by omega
    simp only [ew2] at m1
    simp [run, start, sSeq, sSet, sNil, sExpr, sRet, sRetN, sIf, sNo, sPut, Dn.sFld, Dn.sFldAdd, sAug, eVar, eC, Dn.e1, Dn.e2, aNil, aCons, eTup, eLst, eCall, tE, tBl, Dn.tNot, Dn.tAnd, Dn.tOr, Dn.tYes, eIf, eAnd, eOr, eNot, eChain, eB, on1, on2, bLen, fLen, bIsi, fIsi, tyOf, isT, bAll, fAll, bAny, fAny, bStr, fStr, bInt, fInt, bAbs, fAbs, bMin, fMin, bTuple, fTuple, bList, fList, opAdd, opSub, opPow, opNeg, opItem, opSlice, eSlice, oNone, oSome, opAddI, cEq, cNe, cLt, cLe, cGt, cGe, cIn, keyD, truth, deref, Dn.gName, Dn.gNil, Dn.gCons, Dn.gTup, Dn.gStar, R.bind_ok, R.bind_no, R.thenS_ok, R.thenS_no, RS.next_nx, RS.next_rt, RS.next_no, onG_ok, eFld, fget, fput, insOf, setF, eMeth, onIns, eBM, eBM0, tyD, mAppend, mPop, mExtend, mJoin, mFind, Dn.m0, Dn.m1, Dn.m2, eBox, eFrz, eMake, big, zf, m1, r, q, pl]
theorem dTail_eq {h : Hh} {n : Nat} {C : List Int} {a l : Nat} (p : PenAt h n C a l) (many k : Nat) (cell : Int) (o4 o5 o6 o7 : Option D) (hk : k ≤ 1000000) (hm : 0 < many) (hm2 : many < 1000) :
    ∃ v l' : Nat, v < many ∧ dTail [some (.loc n), some (.int many), some (.int k), some (.int cell), o4, o5, o6, o7] h = .rt (.int v) (mvp h n C a l') := by
  obtain ⟨v1, l1, hv1, e1⟩ := dWide_eq p many cell (some (.int k)) o4 o5 o6 o7 hm hm2
  obtain ⟨v2, hv2, e2⟩ := dLast_eq h n k many cell o4 o5 o6 o7 hk hm
  have self : mvp h n C a l = h := by
    unfold mvp
    refine List.ext_getElem? fun i => ?_
    by_cases z : n = i
    · subst z
      rw [List.getElem?_set_self p.lt]
      exact p.symm
    · rw [List.getElem?_set_ne z]
  have pw : ∀ hh : Hh, opPow (.int 10) (.int 18) hh = .ok (.int 1000000000000000000) hh := fun hh => pow_ok 10 18 (by omega) (by decide) hh
  by_cases z : k < C.length
  · by_cases y : 1000000000000000000 ≤ (if cell < 0 then -cell else cell)
    · refine ⟨v1, l1, hv1, ?_⟩
      unfold dTail
      simp [run, start, sSeq, sSet, sNil, sExpr, sRet, sRetN, sIf, sNo, sPut, Dn.sFld, Dn.sFldAdd, sAug, eVar, eC, Dn.e1, Dn.e2, aNil, aCons, eTup, eLst, eCall, tE, tBl, Dn.tNot, Dn.tAnd, Dn.tOr, Dn.tYes, eIf, eAnd, eOr, eNot, eChain, eB, on1, on2, bLen, fLen, bIsi, fIsi, tyOf, isT, bAll, fAll, bAny, fAny, bStr, fStr, bInt, fInt, bAbs, fAbs, bMin, fMin, bTuple, fTuple, bList, fList, opAdd, opSub, opMul, opDiv, opMod, opNeg, opSlice, eSlice, oNone, oSome, opAddI, cEq, cNe, cLt, cLe, cGt, cGe, cIn, keyD, truth, deref, Dn.gName, Dn.gNil, Dn.gCons, Dn.gTup, Dn.gStar, R.bind_ok, R.bind_no, R.thenS_ok, R.thenS_no, RS.next_nx, RS.next_rt, RS.next_no, onG_ok, eFld, fget, fput, insOf, setF, eMeth, onIns, eBM, eBM0, tyD, mAppend, mPop, mExtend, mJoin, mFind, Dn.m0, Dn.m1, Dn.m2, eBox, eFrz, eMake, big, pen_cells p, pw, z, y, e1]
    · refine ⟨v2, l, hv2, ?_⟩
      unfold dTail
      simp [run, start, sSeq, sSet, sNil, sExpr, sRet, sRetN, sIf, sNo, sPut, Dn.sFld, Dn.sFldAdd, sAug, eVar, eC, Dn.e1, Dn.e2, aNil, aCons, eTup, eLst, eCall, tE, tBl, Dn.tNot, Dn.tAnd, Dn.tOr, Dn.tYes, eIf, eAnd, eOr, eNot, eChain, eB, on1, on2, bLen, fLen, bIsi, fIsi, tyOf, isT, bAll, fAll, bAny, fAny, bStr, fStr, bInt, fInt, bAbs, fAbs, bMin, fMin, bTuple, fTuple, bList, fList, opAdd, opSub, opMul, opDiv, opMod, opNeg, opSlice, eSlice, oNone, oSome, opAddI, cEq, cNe, cLt, cLe, cGt, cGe, cIn, keyD, truth, deref, Dn.gName, Dn.gNil, Dn.gCons, Dn.gTup, Dn.gStar, R.bind_ok, R.bind_no, R.thenS_ok, R.thenS_no, RS.next_nx, RS.next_rt, RS.next_no, onG_ok, eFld, fget, fput, insOf, setF, eMeth, onIns, eBM, eBM0, tyD, mAppend, mPop, mExtend, mJoin, mFind, Dn.m0, Dn.m1, Dn.m2, eBox, eFrz, eMake, big, pen_cells p, pw, z, y, e2, self]
  · refine ⟨v2, l, hv2, ?_⟩
    unfold dTail
    simp [run, start, sSeq, sSet, sNil, sExpr, sRet, sRetN, sIf, sNo, sPut, Dn.sFld, Dn.sFldAdd, sAug, eVar, eC, Dn.e1, Dn.e2, aNil, aCons, eTup, eLst, eCall, tE, tBl, Dn.tNot, Dn.tAnd, Dn.tOr, Dn.tYes, eIf, eAnd, eOr, eNot, eChain, eB, on1, on2, bLen, fLen, bIsi, fIsi, tyOf, isT, bAll, fAll, bAny, fAny, bStr, fStr, bInt, fInt, bAbs, fAbs, bMin, fMin, bTuple, fTuple, bList, fList, opAdd, opSub, opMul, opDiv, opMod, opNeg, opSlice, eSlice, oNone, oSome, opAddI, cEq, cNe, cLt, cLe, cGt, cGe, cIn, keyD, truth, deref, Dn.gName, Dn.gNil, Dn.gCons, Dn.gTup, Dn.gStar, R.bind_ok, R.bind_no, R.thenS_ok, R.thenS_no, RS.next_nx, RS.next_rt, RS.next_no, onG_ok, eFld, fget, fput, insOf, setF, eMeth, onIns, eBM, eBM0, tyD, mAppend, mPop, mExtend, mJoin, mFind, Dn.m0, Dn.m1, Dn.m2, eBox, eFrz, eMake, big, pen_cells p, pw, z, e2, self]
theorem cells_ne {C : List Int} (hC : C ≠ []) (hh : Hh) : cNe (.lst (C.map D.int)) (.lst []) hh = .ok (.bl true) hh := by
  have d : isData 60 (.lst (C.map D.int)) = true := row_data fun d hd => by
    obtain ⟨x, _, rfl⟩ := List.mem_map.mp hd
    rfl
  cases C with
  | nil => exact absurd rfl hC
  | cons c C =>
    show (if isData 60 (.lst ((c :: C).map D.int)) && isData 60 (.lst []) then R.ok (D.bl (!eqv (.lst ((c :: C).map D.int)) (.lst []))) hh else R.no) = _
    rw [d]
    rfl
theorem cells_at {C : List Int} (hC : C ≠ []) (a : Nat) (hh : Hh) : ∃ c : Int, opItem (.lst (C.map D.int)) (.int ((a % C.length : Nat) : Int)) hh = .ok (.int c) hh := by
  have hl : a % C.length < C.length := Nat.mod_lt _ (List.length_pos_iff.mpr hC)
  refine ⟨C[a % C.length], ?_⟩
  have := atIx_nat (C.map D.int) (a % C.length) (by simpa using hl)
  unfold opItem
  simp only [this]
  simp
noncomputable def A_draw : Fn := tr 8 g_l_draw
theorem draw_eq {h : Hh} {n : Nat} {C : List Int} {a l : Nat} (p : PenAt h n C a l) (many : Nat) (ha : a ≤ 1000000) (hm : 0 < many) (hm2 : many < 1000) :
    ∃ v a' l' : Nat, v < many ∧ a' ≤ a + 1 ∧ A_draw [.loc n, .int many] h = .ok (.int v) (mvp h n C a' l') := by
  have key : ∃ v a' l' : Nat, v < many ∧ a' ≤ a + 1 ∧ run 8 g_l_draw [.loc n, .int many] h = .ok (.int v) (mvp h n C a' l') := by
    rw [draw_parts]
    have pl := pen_left p
    by_cases z : 0 < l
    · have r : ∀ hh : Hh, opMod (.int (l : Int)) (.int (many : Int)) hh = .ok (.int ((l % many : Nat) : Int)) hh := fun hh => by rw [mod_ok _ _ hh (by omega), Int.natCast_emod]
      have q : ∀ hh : Hh, opDiv (.int (l : Int)) (.int (many : Int)) hh = .ok (.int ((l / many : Nat) : Int)) hh := fun hh => by rw [div_ok _ _ hh (by omega) (by omega), Int.natCast_ediv]
      have pt := put_left p (l / many)
      refine ⟨l % many, a, l / many, Nat.mod_lt _ hm, by omega, ?_⟩
      push_cast at r q pt ⊢
      unfold dHead
      simp [run, start, sSeq, sSet, sNil, sExpr, sRet, sRetN, sIf, sNo, sPut, Dn.sFld, Dn.sFldAdd, sAug, eVar, eC, Dn.e1, Dn.e2, aNil, aCons, eTup, eLst, eCall, tE, tBl, Dn.tNot, Dn.tAnd, Dn.tOr, Dn.tYes, eIf, eAnd, eOr, eNot, eChain, eB, on1, on2, bLen, fLen, bIsi, fIsi, tyOf, isT, bAll, fAll, bAny, fAny, bStr, fStr, bInt, fInt, bAbs, fAbs, bMin, fMin, bTuple, fTuple, bList, fList, opAdd, opSub, opMul, opPow, opNeg, opSlice, eSlice, oNone, oSome, opAddI, cEq, cNe, cLt, cLe, cGt, cGe, cIn, keyD, truth, deref, Dn.gName, Dn.gNil, Dn.gCons, Dn.gTup, Dn.gStar, R.bind_ok, R.bind_no, R.thenS_ok, R.thenS_no, RS.next_nx, RS.next_rt, RS.next_no, onG_ok, eFld, fget, fput, insOf, setF, eMeth, onIns, eBM, eBM0, tyD, mAppend, mPop, mExtend, mJoin, mFind, Dn.m0, Dn.m1, Dn.m2, eBox, eFrz, eMake, big, pl, z, r, q, pt]
    · have l0 : l = 0 := by omega
      have pa := pen_at p
      have pt := put_at p (a + 1)
      have p2 := p.mvp (a + 1) l
      have m1 : ∀ hh : Hh, opMul (.int 1861) (.int (a : Int)) hh = .ok (.int (1861 * (a : Int))) hh := fun hh => mul_ok 1861 (a : Int) (by rw [w64 (x := 1861) (by omega) (by omega), Bool.true_or]) hh
      by_cases hC : C = []
      · obtain ⟨v, l', hv, e⟩ := dTail_eq p2 many a (1861 * (a : Int) + 809) none none none none ha hm hm2
        rw [mvp_mvp] at e
        refine ⟨v, a + 1, l', hv, by omega, ?_⟩
        have pc := pen_cells p2
        have ce : ∀ hh : Hh, cNe (.lst (C.map D.int)) (.lst []) hh = .ok (.bl false) hh := fun hh => by
          subst hC
          rfl
        push_cast at pt
        unfold dHead
        simp [run, start, sSeq, sSet, sNil, sExpr, sRet, sRetN, sIf, sNo, sPut, Dn.sFld, Dn.sFldAdd, sAug, eVar, eC, Dn.e1, Dn.e2, aNil, aCons, eTup, eLst, eCall, tE, tBl, Dn.tNot, Dn.tAnd, Dn.tOr, Dn.tYes, eIf, eAnd, eOr, eNot, eChain, eB, on1, on2, bLen, fLen, bIsi, fIsi, tyOf, isT, bAll, fAll, bAny, fAny, bStr, fStr, bInt, fInt, bAbs, fAbs, bMin, fMin, bTuple, fTuple, bList, fList, opAdd, opSub, opDiv, opMod, opPow, opNeg, opSlice, eSlice, oNone, oSome, opAddI, cEq, cLt, cLe, cGt, cGe, cIn, keyD, truth, deref, Dn.gName, Dn.gNil, Dn.gCons, Dn.gTup, Dn.gStar, R.bind_ok, R.bind_no, R.thenS_ok, R.thenS_no, RS.next_nx, RS.next_rt, RS.next_no, onG_ok, eFld, fget, fput, insOf, setF, eMeth, onIns, eBM, eBM0, tyD, mAppend, mPop, mExtend, mJoin, mFind, Dn.m0, Dn.m1, Dn.m2, eBox, eFrz, eMake, big, pl, z, pa, pt, m1, pc, ce, e]
      · obtain ⟨c, ec⟩ : ∃ c : Int, ∀ hh : Hh, opItem (.lst (C.map D.int)) (.int ((a % C.length : Nat) : Int)) hh = .ok (.int c) hh := by
          obtain ⟨c, _⟩ := cells_at hC a []
          refine ⟨C[a % C.length]'(Nat.mod_lt _ (List.length_pos_iff.mpr hC)), fun hh => ?_⟩
          have := atIx_nat (C.map D.int) (a % C.length) (by simpa using Nat.mod_lt _ (List.length_pos_iff.mpr hC))
          unfold opItem
          simp only [this]
          simp
        obtain ⟨v, l', hv, e⟩ := dTail_eq p2 many a c none none none none ha hm hm2
        rw [mvp_mvp] at e
        refine ⟨v, a + 1, l', hv, by omega, ?_⟩
        have pc := pen_cells p2
        have ce := cells_ne hC
        have lp : (0 : Int) < (C.length : Int) := by
          have := List.length_pos_iff.mpr hC
          omega
        have rm : ∀ hh : Hh, opMod (.int (a : Int)) (.int (C.length : Int)) hh = .ok (.int ((a % C.length : Nat) : Int)) hh := fun hh => by rw [mod_ok _ _ hh lp, Int.natCast_emod]
        push_cast at pt rm ec
        unfold dHead
        simp [run, start, sSeq, sSet, sNil, sExpr, sRet, sRetN, sIf, sNo, sPut, Dn.sFld, Dn.sFldAdd, sAug, eVar, eC, Dn.e1, Dn.e2, aNil, aCons, eTup, eLst, eCall, tE, tBl, Dn.tNot, Dn.tAnd, Dn.tOr, Dn.tYes, eIf, eAnd, eOr, eNot, eChain, eB, on1, on2, bLen, fLen, bIsi, fIsi, tyOf, isT, bAll, fAll, bAny, fAny, bStr, fStr, bInt, fInt, bAbs, fAbs, bMin, fMin, bTuple, fTuple, bList, fList, opAdd, opSub, opDiv, opPow, opNeg, opSlice, eSlice, oNone, oSome, opAddI, cEq, cLt, cLe, cGt, cGe, cIn, keyD, truth, deref, Dn.gName, Dn.gNil, Dn.gCons, Dn.gTup, Dn.gStar, R.bind_ok, R.bind_no, R.thenS_ok, R.thenS_no, RS.next_nx, RS.next_rt, RS.next_no, onG_ok, eFld, fget, fput, insOf, setF, eMeth, onIns, eBM, eBM0, tyD, mAppend, mPop, mExtend, mJoin, mFind, Dn.m0, Dn.m1, Dn.m2, eBox, eFrz, eMake, big, pl, z, pa, pt, m1, pc, ce, rm, ec, e]
  obtain ⟨v, a', l', h1, h2, e⟩ := key
  refine ⟨v, a', l', h1, h2, ?_⟩
  show trim _ _ = _
  rw [e, trim_len (mvp_len _ _ _ _ _)]
end Dk75

/-! text Dk75zb -/
set_option maxHeartbeats 1000000
set_option Elab.async false
set_option linter.all false
set_option maxRecDepth 100000
set_option autoImplicit false
set_option maxHeartbeats 8000000
/-! k75: drawn texts and numbers. -/
namespace Dk75
open Dn
theorem item_mem (L : List D) (v : Nat) (h : v < L.length) : ∃ x ∈ L, ∀ hh : Hh, opItem (.lst L) (.int v) hh = .ok x hh := by
  refine ⟨L[v], List.getElem_mem h, fun hh => ?_⟩
  have := atIx_nat L v h
  unfold opItem
  simp only [this]
noncomputable def A_pen : Fn := tr 1 g_l_pen
theorem pen_eq (ns : List Int) : A_pen [.scr ns] [] = .ok (.loc 0) [some (pen (slc ns none (some 63)) 0 0)] := by
  have x : run 1 g_l_pen [.scr ns] [] = .ok (.loc 0) [some (pen (slc ns none (some 63)) 0 0)] := by
    unfold g_l_pen
    simp [run, start, sSeq, sSet, sNil, sExpr, sRet, sRetN, sIf, sNo, sPut, Dn.sFld, Dn.sFldAdd, sAug, eVar, eC, Dn.e1, Dn.e2, aNil, aCons, eTup, eLst, eCall, tE, tBl, Dn.tNot, Dn.tAnd, Dn.tOr, Dn.tYes, eIf, eAnd, eOr, eNot, eChain, eB, on1, on2, bLen, fLen, bIsi, fIsi, tyOf, isT, bAll, fAll, bAny, fAny, bStr, fStr, bInt, fInt, bAbs, fAbs, bMin, fMin, bTuple, fTuple, bList, fList, opAdd, opSub, opMul, opDiv, opMod, opPow, opNeg, opItem, opSlice, eSlice, oNone, oSome, opAddI, cEq, cNe, cLt, cLe, cGt, cGe, cIn, keyD, truth, deref, Dn.gName, Dn.gNil, Dn.gCons, Dn.gTup, Dn.gStar, R.bind_ok, R.bind_no, R.thenS_ok, R.thenS_no, RS.next_nx, RS.next_rt, RS.next_no, onG_ok, eFld, fget, fput, insOf, setF, eMeth, onIns, eBM, eBM0, tyD, mAppend, mPop, mExtend, mJoin, mFind, Dn.m0, Dn.m1, Dn.m2, eBox, eFrz, eMake, big, eDic, pen]
  have y : A_pen [.scr ns] [] = trim [] (run 1 g_l_pen [.scr ns] []) := rfl
  rw [y, x, trim_ok, if_neg]
  intro t
  exact absurd t.2.1 (by decide)
def XX : Tx := (List.replicate 100 (S "x")).flatten
def YY : Tx := (List.replicate 60 (S "y")).flatten
def TXS : List D := [.str (S ""), .str (S "a"), .str (S "ab"), .str (S "b"), .str (S " "), .str (S "no, yes; (x)"), .str (S "10 end"), .str (S "~"), .str XX, .str YY]
theorem txs_ok : ∀ x ∈ TXS, ∃ t, x = .str t ∧ textOk t = true := by
  intro x hx
  simp only [TXS, List.mem_cons, List.not_mem_nil, or_false] at hx
  rcases hx with rfl | rfl | rfl | rfl | rfl | rfl | rfl | rfl | rfl | rfl <;> exact ⟨_, rfl, by decide +kernel⟩
noncomputable def A_text : Fn := tr 2 (g_l_text A_draw)
theorem text_eq {h : Hh} {n : Nat} {C : List Int} {a l : Nat} (p : PenAt h n C a l) (ha : a ≤ 900000) :
    ∃ (t : Tx) (a' l' : Nat), textOk t = true ∧ a' ≤ a + 2 ∧ A_text [.loc n] h = .ok (.str t) (mvp h n C a' l') := by
  obtain ⟨v, a1, l1, hv, h1, e1⟩ := draw_eq p 2 (by omega) (by omega) (by omega)
  have p1 := p.mvp a1 l1
  obtain ⟨m, hm, hm0, hm1, em⟩ : ∃ m : Nat, m ≤ 10 ∧ 0 < m ∧ m < 1000 ∧ ∀ hh : Hh, opItem (.lst [.int 10, .int 5]) (.int v) hh = .ok (.int m) hh := by
    have : v = 0 ∨ v = 1 := by omega
    rcases this with rfl | rfl
    · exact ⟨10, by omega, by omega, by omega, fun _ => rfl⟩
    · exact ⟨5, by omega, by omega, by omega, fun _ => rfl⟩
  obtain ⟨v2, a2, l2, hv2, h2, e2'⟩ := draw_eq p1 m (by omega) hm0 hm1
  rw [mvp_mvp] at e2'
  obtain ⟨x, hx, ex⟩ := item_mem TXS v2 (by show v2 < 10; omega)
  obtain ⟨t, rfl, ht⟩ := txs_ok x hx
  have mx : ∀ hh : Hh, opMul (.str (S "x")) (.int 100) hh = .ok (.str XX) hh := fun hh => rfl
  have my : ∀ hh : Hh, opMul (.str (S "y")) (.int 60) hh = .ok (.str YY) hh := fun hh => rfl
  unfold TXS at ex
  have z : run 2 (g_l_text A_draw) [.loc n] h = .ok (.str t) (mvp h n C a2 l2) := by
    unfold g_l_text
    push_cast at e1
    simp [run, start, sSeq, sSet, sNil, sExpr, sRet, sRetN, sIf, sNo, sPut, Dn.sFld, Dn.sFldAdd, sAug, eVar, eC, Dn.e1, Dn.e2, aNil, aCons, eTup, eLst, eCall, tE, tBl, Dn.tNot, Dn.tAnd, Dn.tOr, Dn.tYes, eIf, eAnd, eOr, eNot, eChain, eB, on1, on2, bLen, fLen, bIsi, fIsi, tyOf, isT, bAll, fAll, bAny, fAny, bStr, fStr, bInt, fInt, bAbs, fAbs, bMin, fMin, bTuple, fTuple, bList, fList, opAdd, opSub, opDiv, opMod, opPow, opNeg, opSlice, eSlice, oNone, oSome, opAddI, cEq, cNe, cLt, cLe, cGt, cGe, cIn, keyD, truth, deref, Dn.gName, Dn.gNil, Dn.gCons, Dn.gTup, Dn.gStar, R.bind_ok, R.bind_no, R.thenS_ok, R.thenS_no, RS.next_nx, RS.next_rt, RS.next_no, onG_ok, eFld, fget, fput, insOf, setF, eMeth, onIns, eBM, eBM0, tyD, mAppend, mPop, mExtend, mJoin, mFind, Dn.m0, Dn.m1, Dn.m2, eBox, eFrz, eMake, big, mx, my, e1, em, e2', ex]
  refine ⟨t, a2, l2, ht, by omega, ?_⟩
  show trim _ _ = _
  rw [z, trim_len (mvp_len _ _ _ _ _)]
noncomputable def A_number : Fn := tr 2 (g_l_number A_draw)
theorem number_eq {h : Hh} {n : Nat} {C : List Int} {a l : Nat} (p : PenAt h n C a l) (ha : a ≤ 900000) :
    ∃ m a' l' : Nat, m ≤ 1000000000000 ∧ a' ≤ a + 3 ∧ A_number [.loc n] h = .ok (.int m) (mvp h n C a' l') := by
  obtain ⟨v0, a0, l0, hv0, h0, e0⟩ := draw_eq p 100 (by omega) (by omega) (by omega)
  have p0 := p.mvp a0 l0
  obtain ⟨v, a1, l1, hv, h1, e1'⟩ := draw_eq p0 2 (by omega) (by omega) (by omega)
  rw [mvp_mvp] at e1'
  have p1 := p.mvp a1 l1
  obtain ⟨m, hm, hm0, hm1, em⟩ : ∃ m : Nat, m ≤ 10 ∧ 0 < m ∧ m < 1000 ∧ ∀ hh : Hh, opItem (.lst [.int 10, .int 6]) (.int v) hh = .ok (.int m) hh := by
    have : v = 0 ∨ v = 1 := by omega
    rcases this with rfl | rfl
    · exact ⟨10, by omega, by omega, by omega, fun _ => rfl⟩
    · exact ⟨6, by omega, by omega, by omega, fun _ => rfl⟩
  obtain ⟨v2, a2, l2, hv2, h2, e2'⟩ := draw_eq p1 m (by omega) hm0 hm1
  rw [mvp_mvp] at e2'
  obtain ⟨x, hx, ex⟩ := item_mem [.int 0, .int 1, .int 2, .int 3, .int 5, .int 7, .int 10, .int 1000000000000, .int 1000000, .int v0] v2 (by show v2 < 10; omega)
  obtain ⟨q, rfl, hq⟩ : ∃ q : Nat, x = .int q ∧ q ≤ 1000000000000 := by
    simp only [List.mem_cons, List.not_mem_nil, or_false] at hx
    rcases hx with rfl | rfl | rfl | rfl | rfl | rfl | rfl | rfl | rfl | rfl
    · exact ⟨0, rfl, by omega⟩
    · exact ⟨1, rfl, by omega⟩
    · exact ⟨2, rfl, by omega⟩
    · exact ⟨3, rfl, by omega⟩
    · exact ⟨5, rfl, by omega⟩
    · exact ⟨7, rfl, by omega⟩
    · exact ⟨10, rfl, by omega⟩
    · exact ⟨1000000000000, rfl, by omega⟩
    · exact ⟨1000000, rfl, by omega⟩
    · exact ⟨v0, rfl, by omega⟩
  have p12 : ∀ hh : Hh, opPow (.int 10) (.int 12) hh = .ok (.int 1000000000000) hh := fun hh => pow_ok 10 12 (by omega) (by decide) hh
  have p6 : ∀ hh : Hh, opPow (.int 10) (.int 6) hh = .ok (.int 1000000) hh := fun hh => pow_ok 10 6 (by omega) (by decide) hh
  have z : run 2 (g_l_number A_draw) [.loc n] h = .ok (.int q) (mvp h n C a2 l2) := by
    unfold g_l_number
    push_cast at e0 e1'
    simp [run, start, sSeq, sSet, sNil, sExpr, sRet, sRetN, sIf, sNo, sPut, Dn.sFld, Dn.sFldAdd, sAug, eVar, eC, Dn.e1, Dn.e2, aNil, aCons, eTup, eLst, eCall, tE, tBl, Dn.tNot, Dn.tAnd, Dn.tOr, Dn.tYes, eIf, eAnd, eOr, eNot, eChain, eB, on1, on2, bLen, fLen, bIsi, fIsi, tyOf, isT, bAll, fAll, bAny, fAny, bStr, fStr, bInt, fInt, bAbs, fAbs, bMin, fMin, bTuple, fTuple, bList, fList, opAdd, opSub, opMul, opDiv, opMod, opNeg, opSlice, eSlice, oNone, oSome, opAddI, cEq, cNe, cLt, cLe, cGt, cGe, cIn, keyD, truth, deref, Dn.gName, Dn.gNil, Dn.gCons, Dn.gTup, Dn.gStar, R.bind_ok, R.bind_no, R.thenS_ok, R.thenS_no, RS.next_nx, RS.next_rt, RS.next_no, onG_ok, eFld, fget, fput, insOf, setF, eMeth, onIns, eBM, eBM0, tyD, mAppend, mPop, mExtend, mJoin, mFind, Dn.m0, Dn.m1, Dn.m2, eBox, eFrz, eMake, big, p12, p6, e0, e1', em, e2', ex]
  refine ⟨q, a2, l2, hq, by omega, ?_⟩
  show trim _ _ = _
  rw [z, trim_len (mvp_len _ _ _ _ _)]
end Dk75

/-! text Dk75zc -/
set_option maxHeartbeats 1000000
set_option Elab.async false
set_option linter.all false
set_option maxRecDepth 100000
set_option autoImplicit false
set_option maxHeartbeats 80000000
/-! k75: drawn expressions. -/
namespace Dk75
open Dn
theorem trim_pen {h : Hh} {n : Nat} {C : List Int} {a l a' l' : Nat} (p : PenAt h n C a l) (g : Hh) {d : D} (b : below h.length d = true) : trim h (.ok d (mvp h n C a' l' ++ g)) = .ok d (mvp h n C a' l') := by
  refine trim_to (mvp_len _ _ _ _ _) b fun i hi => ?_
  by_cases z : n = i
  · subst z
    refine .inr fun o ho => ?_
    unfold mvp at ho
    rw [List.getElem?_set_self hi] at ho
    cases ho
    show belows h.length [.lst (C.map D.int), .int a', .int l'] = true
    refine areData_below (n := 60) _ _ ?_
    have : areData 59 (C.map D.int) = true := areData_all.mpr fun d hd => by
      obtain ⟨x, _, rfl⟩ := List.mem_map.mp hd
      rfl
    show (areData 59 (C.map D.int) && (true && (true && true))) = true
    rw [this]
    rfl
  · exact .inl (by unfold mvp; rw [List.getElem?_set_ne z])
theorem PenAt.app {h : Hh} {n : Nat} {C : List Int} {a l : Nat} (p : PenAt h n C a l) (g : Hh) : PenAt (h ++ g) n C a l := by
  unfold PenAt
  rw [List.getElem?_append_left p.lt]
  exact p
theorem mvp_app {h : Hh} {n : Nat} {C : List Int} {a l : Nat} (p : PenAt h n C a l) (a' l' : Nat) (g : Hh) : mvp (h ++ g) n C a' l' = mvp h n C a' l' ++ g := by
  unfold mvp
  rw [List.set_append_left _ _ p.lt]
/-- a comprehension whose turns draw -/
theorem comp_draw {M : Nat} (B : Nat) (P : D → Prop) {g : DG} {t : DT} {f : DE} {vs : List Nat} {env : Dn.Env} {n : Nat} {C : List Int} (turn_ : ∀ (x : D) (h : Hh) (a l : Nat), PenAt h n C a l → a ≤ M → ∃ (y : D) (a' l' : Nat), P y ∧ a' ≤ a + B ∧ turnC g t f (wipe env vs) x h = .ok (some y) (mvp h n C a' l')) :
    ∀ (xs : List D) (h : Hh) (a l : Nat) (acc : List D), PenAt h n C a l → a + B * xs.length ≤ M → acc.length + xs.length ≤ 1000 → ∃ (ys : List D) (a' l' : Nat), ys.length = xs.length ∧ (∀ y ∈ ys, P y) ∧ a' ≤ a + B * xs.length ∧
      compL h.length (turnC g t f (wipe env vs)) xs (h ++ [some (.lst acc)]) = .ok () (mvp h n C a' l' ++ [some (.lst (acc ++ ys))])
  | [], h, a, l, acc, p, _, _ => by
    refine ⟨[], a, l, rfl, fun y hy => by simp at hy, by omega, ?_⟩
    have self : mvp h n C a l = h := by
      unfold mvp
      refine List.ext_getElem? fun i => ?_
      by_cases z : n = i
      · subst z
        rw [List.getElem?_set_self p.lt]
        exact p.symm
      · rw [List.getElem?_set_ne z]
    rw [self]
    simp [compL]
  | x :: xs, h, a, l, acc, p, hB, hz => by
    have hB' : a + (B * xs.length + B) ≤ M := by
      rw [List.length_cons, Nat.mul_succ] at hB
      exact hB
    obtain ⟨y, a1, l1, py, h1, e⟩ := turn_ x (h ++ [some (.lst acc)]) a l (p.app _) (by omega)
    rw [mvp_app p] at e
    have p1 := p.mvp a1 l1
    obtain ⟨ys, a2, l2, hl, hp, h2, e2⟩ := comp_draw B P turn_ xs (mvp h n C a1 l1) a1 l1 (acc ++ [y]) p1 (by omega) (by simp at hz ⊢; omega)
    rw [mvp_mvp, mvp_len] at e2
    refine ⟨y :: ys, a2, l2, by simp [hl], fun z hz => ?_, ?_, ?_⟩
    · rcases List.mem_cons.mp hz with rfl | hz
      · exact py
      · exact hp z hz
    · rw [List.length_cons, Nat.mul_succ]
      omega
    · unfold compL
      have at_ : (mvp h n C a1 l1 ++ [some (O.lst acc)])[h.length]? = some (some (.lst acc)) := by
        rw [← mvp_len h n C a1 l1]
        exact at_last _ _
      have st_ : (mvp h n C a1 l1 ++ [some (O.lst acc)]).set h.length (some (.lst (acc ++ [y]))) = mvp h n C a1 l1 ++ [some (.lst (acc ++ [y]))] := by
        have := set_last (mvp h n C a1 l1) (some (.lst acc)) (some (.lst (acc ++ [y])))
        rwa [mvp_len] at this
      rw [e]
      simp only [at_]
      rw [if_pos (Nat.lt_of_le_of_lt (show acc.length ≤ 1000 by omega) (by decide)), st_, e2]
      simp
theorem comp_drawn {M : Nat} (B : Nat) (P : D → Prop) {it : DI} {g : DG} {t : DT} {f : DE} {vs : List Nat} {env : Dn.Env} {h : Hh} {n : Nat} {C : List Int} {a l : Nat} {xs : List D} (p : PenAt h n C a l) (hi : it env h = .ok xs h) (hP : ∀ y, P y → isData 50 y = true)
    (turn_ : ∀ (x : D) (h : Hh) (a l : Nat), PenAt h n C a l → a ≤ M → ∃ (y : D) (a' l' : Nat), P y ∧ a' ≤ a + B ∧ turnC g t f (wipe env vs) x h = .ok (some y) (mvp h n C a' l')) (hB : a + B * xs.length ≤ M) (hz : xs.length ≤ 1000) :
    ∃ (ys : List D) (a' l' : Nat), ys.length = xs.length ∧ (∀ y ∈ ys, P y) ∧ a' ≤ a + B * xs.length ∧ eComp it g t f vs env h = .ok (.lst ys) (mvp h n C a' l') := by
  obtain ⟨ys, a2, l2, hl, hp, h2, e⟩ := comp_draw B P turn_ xs h a l [] p hB (by simpa using hz)
  refine ⟨ys, a2, l2, hl, hp, h2, ?_⟩
  have at_ : (mvp h n C a2 l2 ++ [some (O.lst ([] ++ ys))])[h.length]? = some (some (.lst ys)) := by
    rw [← mvp_len h n C a2 l2]
    exact at_last _ _
  have st_ : (mvp h n C a2 l2 ++ [some (O.lst ([] ++ ys))]).set h.length none = mvp h n C a2 l2 ++ [none] := by
    have := set_last (mvp h n C a2 l2) (some (.lst ([] ++ ys))) none
    rwa [mvp_len] at this
  unfold eComp
  rw [hi, R.bind_ok, e]
  simp only [at_]
  rw [st_]
  exact trim_pen p [none] (isData_below (n := 60) _ _ (row_data fun d hd => hP d (hp d hd)))
end Dk75

/-! text Dk75zd -/
set_option maxHeartbeats 1000000
set_option Elab.async false
set_option linter.all false
set_option maxRecDepth 100000
set_option autoImplicit false
set_option maxHeartbeats 8000000
/-! k75: drawn expressions, whole. -/
namespace Dk75
open Dn
noncomputable def A_lexpr : Nat → Fn
  | 0 => fun _ _ => .no
  | m + 1 => tr 6 (g_l_expression A_draw (A_lexpr m) A_number A_text)
noncomputable def wayE : DE := eIf (tBl (Dn.e2 cGt (eVar 1) (eC (.int 1)))) (eCall 2 A_draw [] (aCons (eVar 0) (aCons (eC (.int 16)) aNil))) (Dn.e2 opAdd (eC (.int 9)) (eCall 2 A_draw [] (aCons (eVar 0) (aCons (eC (.int 7)) aNil))))
theorem way_eq {h : Hh} {n : Nat} {C : List Int} {a l : Nat} (p : PenAt h n C a l) (ha : a ≤ 900000) (d : Nat) (hd : 1 ≤ d) (o2 o3 o4 o5 : Option D) :
    ∃ w a' l' : Nat, w < 16 ∧ (d = 1 → 9 ≤ w) ∧ a' ≤ a + 1 ∧ wayE [some (.loc n), some (.int d), o2, o3, o4, o5] h = .ok (.int w) (mvp h n C a' l') := by
  by_cases z : 1 < d
  · obtain ⟨v, a1, l1, hv, h1, e⟩ := draw_eq p 16 (by omega) (by omega) (by omega)
    refine ⟨v, a1, l1, hv, by omega, h1, ?_⟩
    unfold wayE
    have z' : (1 : Int) < (d : Int) := by omega
    push_cast at e
    simp [run, start, sSeq, sSet, sNil, sExpr, sRet, sRetN, sIf, sNo, sPut, Dn.sFld, Dn.sFldAdd, sAug, eVar, eC, Dn.e1, Dn.e2, aNil, aCons, eTup, eLst, eCall, tE, tBl, Dn.tNot, Dn.tAnd, Dn.tOr, Dn.tYes, eIf, eAnd, eOr, eNot, eChain, eB, on1, on2, bLen, fLen, bIsi, fIsi, tyOf, isT, bAll, fAll, bAny, fAny, bStr, fStr, bInt, fInt, bAbs, fAbs, bMin, fMin, bTuple, fTuple, bList, fList, opAdd, opSub, opMul, opDiv, opMod, opPow, opNeg, opItem, opSlice, eSlice, oNone, oSome, opAddI, cEq, cNe, cLt, cLe, cGt, cGe, cIn, keyD, truth, deref, Dn.gName, Dn.gNil, Dn.gCons, Dn.gTup, Dn.gStar, R.bind_ok, R.bind_no, R.thenS_ok, R.thenS_no, RS.next_nx, RS.next_rt, RS.next_no, onG_ok, eFld, fget, fput, insOf, setF, eMeth, onIns, eBM, eBM0, tyD, mAppend, mPop, mExtend, mJoin, mFind, Dn.m0, Dn.m1, Dn.m2, eBox, eFrz, eMake, big, z', e]
  · obtain ⟨v, a1, l1, hv, h1, e⟩ := draw_eq p 7 (by omega) (by omega) (by omega)
    refine ⟨9 + v, a1, l1, by omega, by omega, h1, ?_⟩
    unfold wayE
    have z' : ¬ (1 : Int) < (d : Int) := by omega
    push_cast at e ⊢
    have d1 : d = 1 := by omega
    subst d1
    simp [run, start, sSeq, sSet, sNil, sExpr, sRet, sRetN, sIf, sNo, sPut, Dn.sFld, Dn.sFldAdd, sAug, eVar, eC, Dn.e1, Dn.e2, aNil, aCons, eTup, eLst, eCall, tE, tBl, Dn.tNot, Dn.tAnd, Dn.tOr, Dn.tYes, eIf, eAnd, eOr, eNot, eChain, eB, on1, on2, bLen, fLen, bIsi, fIsi, tyOf, isT, bAll, fAll, bAny, fAny, bStr, fStr, bInt, fInt, bAbs, fAbs, bMin, fMin, bTuple, fTuple, bList, fList, opAdd, opSub, opMul, opDiv, opMod, opPow, opNeg, opItem, opSlice, eSlice, oNone, oSome, opAddI, cEq, cNe, cLt, cLe, cGt, cGe, cIn, keyD, truth, deref, Dn.gName, Dn.gNil, Dn.gCons, Dn.gTup, Dn.gStar, R.bind_ok, R.bind_no, R.thenS_ok, R.thenS_no, RS.next_nx, RS.next_rt, RS.next_no, onG_ok, eFld, fget, fput, insOf, setF, eMeth, onIns, eBM, eBM0, tyD, mAppend, mPop, mExtend, mJoin, mFind, Dn.m0, Dn.m1, Dn.m2, eBox, eFrz, eMake, big, e]
theorem item2 (x y : D) (v : Nat) (h : v < 2) : ∃ z, (z = x ∨ z = y) ∧ ∀ hh : Hh, opItem (.lst [x, y]) (.int v) hh = .ok z hh := by
  have : v = 0 ∨ v = 1 := by omega
  rcases this with rfl | rfl
  · exact ⟨x, .inl rfl, fun _ => rfl⟩
  · exact ⟨y, .inr rfl, fun _ => rfl⟩
/-- what a drawn expression is to be -/
def Drawn (F : Fn) (n : Nat) (C : List Int) (d B M : Nat) : Prop := ∀ (h : Hh) (a l : Nat), PenAt h n C a l → a ≤ M → ∃ (e : Ex) (a' l' : Nat), good e ∧ dep e ≤ d ∧ a' ≤ a + B ∧ F [.loc n, .int d] h = .ok (toD e) (mvp h n C a' l')
def OPL : List D := [.str (S "+"), .str (S "-"), .str (S "*"), .str (S "/"), .str (S "rest"), .str (S "<"), .str (S "="), .str (S ">"), .str (S "and"), .str (S "or"), .str (S "+"), .str (S "-"), .str (S "<")]
theorem opl_ok : ∀ x ∈ OPL, ∃ op, x = .str op ∧ op ∈ OPS := by
  intro x hx
  simp only [OPL, List.mem_cons, List.not_mem_nil, or_false] at hx
  rcases hx with rfl | rfl | rfl | rfl | rfl | rfl | rfl | rfl | rfl | rfl | rfl | rfl | rfl <;> exact ⟨_, rfl, by decide⟩
theorem sub_one (k : Nat) (hh : Hh) : opSub (.int ((k : Int) + 1)) (.int 1) hh = .ok (.int k) hh := by
  show R.ok (D.int ((k : Int) + 1 - 1)) hh = _
  rw [Int.add_sub_cancel]
/-- a sign and two -/
theorem lexpr_two {F : Fn} {n : Nat} {C : List Int} {k B w : Nat} {M : Nat} (hM : M ≤ 800000) (r : Drawn F n C k B M) (hw : w < 5) {h : Hh} {a l a1 l1 : Nat} (p : PenAt h n C a l) (h1 : a1 ≤ a + 1) (ha : a + 1 + 2 * B + 2 ≤ M) (ew : wayE [some (.loc n), some (.int (k + 1 : Nat)), none, none, none, none] h = .ok (.int w) (mvp h n C a1 l1)) :
    ∃ (e : Ex) (a' l' : Nat), good e ∧ dep e ≤ k + 1 ∧ a' ≤ a + 2 + 2 * B ∧ run 6 (g_l_expression A_draw F A_number A_text) [.loc n, .int (k + 1 : Nat)] h = .ok (toD e) (mvp h n C a' l') := by
  have p1 := p.mvp a1 l1
  obtain ⟨v, a2, l2, hv, h2, e2'⟩ := draw_eq p1 13 (by omega) (by omega) (by omega)
  rw [mvp_mvp] at e2'
  have p2 := p.mvp a2 l2
  obtain ⟨x, a3, l3, gx, dx, h3, ex⟩ := r _ _ _ p2 (by omega)
  rw [mvp_mvp] at ex
  have p3 := p.mvp a3 l3
  obtain ⟨y, a4, l4, gy, dy, h4, ey⟩ := r _ _ _ p3 (by omega)
  rw [mvp_mvp] at ey
  obtain ⟨z, hz, ez⟩ := item_mem OPL v (by show v < 13; omega)
  obtain ⟨op, rfl, hop⟩ := opl_ok z hz
  refine ⟨.two op x y, a4, l4, ⟨hop, gx, gy⟩, by simp only [dep]; omega, by omega, ?_⟩
  unfold OPL at ez
  have w' : (w : Int) < 5 := by omega
  push_cast at ew e2' ⊢
  unfold g_l_expression
  change run 6 (sSeq (sSet wayE _) _) _ _ = _
  simp [run, start, sSeq, sSet, sNil, sExpr, sRet, sRetN, sIf, sNo, sPut, Dn.sFld, Dn.sFldAdd, sAug, eVar, eC, Dn.e1, Dn.e2, aNil, aCons, eTup, eLst, eCall, tE, tBl, Dn.tNot, Dn.tAnd, Dn.tOr, Dn.tYes, eIf, eAnd, eOr, eNot, eChain, eB, on1, on2, bLen, fLen, bIsi, fIsi, tyOf, isT, bAll, fAll, bAny, fAny, bStr, fStr, bInt, fInt, bAbs, fAbs, bMin, fMin, bTuple, fTuple, bList, fList, opAdd, opMul, opDiv, opMod, opPow, opNeg, opSlice, eSlice, oNone, oSome, opAddI, cEq, cNe, cLt, cLe, cGt, cGe, cIn, keyD, truth, deref, Dn.gName, Dn.gNil, Dn.gCons, Dn.gTup, Dn.gStar, R.bind_ok, R.bind_no, R.thenS_ok, R.thenS_no, RS.next_nx, RS.next_rt, RS.next_no, onG_ok, eFld, fget, fput, insOf, setF, eMeth, onIns, eBM, eBM0, tyD, mAppend, mPop, mExtend, mJoin, mFind, Dn.m0, Dn.m1, Dn.m2, eBox, eFrz, eMake, big, ew, e2', ez, sub_one, ex, ey, w', toD]
/-- a name, a part: not, size, cell, fit -/
theorem lexpr_5 {F : Fn} {n : Nat} {C : List Int} {k B : Nat} {M : Nat} (hM : M ≤ 800000) (r : Drawn F n C k B M) {h : Hh} {a l a1 l1 : Nat} (p : PenAt h n C a l) (h1 : a1 ≤ a + 1) (ha : a + 1 + B + 2 ≤ M) (ew : wayE [some (.loc n), some (.int (k + 1 : Nat)), none, none, none, none] h = .ok (.int (5 : Nat)) (mvp h n C a1 l1)) :
    ∃ (e : Ex) (a' l' : Nat), good e ∧ dep e ≤ k + 1 ∧ a' ≤ a + 2 + B ∧ run 6 (g_l_expression A_draw F A_number A_text) [.loc n, .int (k + 1 : Nat)] h = .ok (toD e) (mvp h n C a' l') := by
  have p1 := p.mvp a1 l1
  obtain ⟨v, a2, l2, hv, h2, e2'⟩ := draw_eq p1 2 (by omega) (by omega) (by omega)
  rw [mvp_mvp] at e2'
  obtain ⟨x, a3, l3, gx, dx, h3, ex⟩ := r _ _ _ (p.mvp a2 l2) (by omega)
  rw [mvp_mvp] at ex
  obtain ⟨z, hz, ez⟩ := item2 (.str (S "not")) (.str (S "size")) v hv
  obtain ⟨w, rfl, hw⟩ : ∃ w, z = .str w ∧ w ∈ W1 := by
    rcases hz with rfl | rfl
    · exact ⟨_, rfl, by decide⟩
    · exact ⟨_, rfl, by decide⟩
  refine ⟨.one w x, a3, l3, ⟨hw, gx⟩, by simp only [dep]; omega, by omega, ?_⟩
  push_cast at ew e2' ⊢
  unfold g_l_expression
  change run 6 (sSeq (sSet wayE _) _) _ _ = _
  simp [run, start, sSeq, sSet, sNil, sExpr, sRet, sRetN, sIf, sNo, sPut, Dn.sFld, Dn.sFldAdd, sAug, eVar, eC, Dn.e1, Dn.e2, aNil, aCons, eTup, eLst, eCall, tE, tBl, Dn.tNot, Dn.tAnd, Dn.tOr, Dn.tYes, eIf, eAnd, eOr, eNot, eChain, eB, on1, on2, bLen, fLen, bIsi, fIsi, tyOf, isT, bAll, fAll, bAny, fAny, bStr, fStr, bInt, fInt, bAbs, fAbs, bMin, fMin, bTuple, fTuple, bList, fList, opAdd, opMul, opDiv, opMod, opPow, opNeg, opSlice, eSlice, oNone, oSome, opAddI, cEq, cNe, cLt, cLe, cGt, cGe, cIn, keyD, truth, deref, Dn.gName, Dn.gNil, Dn.gCons, Dn.gTup, Dn.gStar, R.bind_ok, R.bind_no, R.thenS_ok, R.thenS_no, RS.next_nx, RS.next_rt, RS.next_no, onG_ok, eFld, fget, fput, insOf, setF, eMeth, onIns, eBM, eBM0, tyD, mAppend, mPop, mExtend, mJoin, mFind, Dn.m0, Dn.m1, Dn.m2, eBox, eFrz, eMake, big, ew, e2', ez, sub_one, ex, toD, isData, eqv_ss, eqv_ii, eqv_bb, eqv_tt, eqv_ll, eqv_ts, eqv_st, eqvL_nn, eqvL_nc, eqvL_cn, eqvL_cc]
end Dk75

/-! text Dk75ze -/
set_option maxHeartbeats 1000000
set_option Elab.async false
set_option linter.all false
set_option maxRecDepth 100000
set_option autoImplicit false
set_option maxHeartbeats 8000000
/-! k75: drawn expressions, more cases. -/
namespace Dk75
open Dn
theorem lexpr_6 {F : Fn} {n : Nat} {C : List Int} {k B : Nat} {M : Nat} (hM : M ≤ 800000) (r : Drawn F n C k B M) {h : Hh} {a l a1 l1 : Nat} (p : PenAt h n C a l) (h1 : a1 ≤ a + 1) (ha : a + 1 + B + 2 ≤ M) (ew : wayE [some (.loc n), some (.int (k + 1 : Nat)), none, none, none, none] h = .ok (.int (6 : Nat)) (mvp h n C a1 l1)) :
    ∃ (e : Ex) (a' l' : Nat), good e ∧ dep e ≤ k + 1 ∧ a' ≤ a + 2 + B ∧ run 6 (g_l_expression A_draw F A_number A_text) [.loc n, .int (k + 1 : Nat)] h = .ok (toD e) (mvp h n C a' l') := by
  have p1 := p.mvp a1 l1
  obtain ⟨v, a2, l2, hv, h2, e2'⟩ := draw_eq p1 9 (by omega) (by omega) (by omega)
  rw [mvp_mvp] at e2'
  obtain ⟨x, a3, l3, gx, dx, h3, ex⟩ := r _ _ _ (p.mvp a2 l2) (by omega)
  rw [mvp_mvp] at ex
  obtain ⟨z, hz, ez⟩ := item2 (.str (S "r")) (.str (S "a")) (v / 8) (by omega)
  obtain ⟨w, rfl, hw⟩ : ∃ w, z = .str w ∧ nameOk w = true := by
    rcases hz with rfl | rfl
    · exact ⟨_, rfl, by decide⟩
    · exact ⟨_, rfl, by decide⟩
  have q : ∀ hh : Hh, opDiv (.int (v : Int)) (.int 8) hh = .ok (.int ((v / 8 : Nat) : Int)) hh := fun hh => by rw [div_ok _ _ hh (by omega) (by omega), Int.natCast_ediv] <;> rfl
  refine ⟨.cell w x, a3, l3, ⟨hw, gx⟩, by simp only [dep]; omega, by omega, ?_⟩
  push_cast at ew e2' q ez ⊢
  unfold g_l_expression
  change run 6 (sSeq (sSet wayE _) _) _ _ = _
  simp [run, start, sSeq, sSet, sNil, sExpr, sRet, sRetN, sIf, sNo, sPut, Dn.sFld, Dn.sFldAdd, sAug, eVar, eC, Dn.e1, Dn.e2, aNil, aCons, eTup, eLst, eCall, tE, tBl, Dn.tNot, Dn.tAnd, Dn.tOr, Dn.tYes, eIf, eAnd, eOr, eNot, eChain, eB, on1, on2, bLen, fLen, bIsi, fIsi, tyOf, isT, bAll, fAll, bAny, fAny, bStr, fStr, bInt, fInt, bAbs, fAbs, bMin, fMin, bTuple, fTuple, bList, fList, opAdd, opMul, opMod, opPow, opNeg, opSlice, eSlice, oNone, oSome, opAddI, cEq, cNe, cLt, cLe, cGt, cGe, cIn, keyD, truth, deref, Dn.gName, Dn.gNil, Dn.gCons, Dn.gTup, Dn.gStar, R.bind_ok, R.bind_no, R.thenS_ok, R.thenS_no, RS.next_nx, RS.next_rt, RS.next_no, onG_ok, eFld, fget, fput, insOf, setF, eMeth, onIns, eBM, eBM0, tyD, mAppend, mPop, mExtend, mJoin, mFind, Dn.m0, Dn.m1, Dn.m2, eBox, eFrz, eMake, big, ew, e2', ez, q, sub_one, ex, toD, isData, eqv_ss, eqv_ii, eqv_bb, eqv_tt, eqv_ll, eqv_ts, eqv_st, eqvL_nn, eqvL_nc, eqvL_cn, eqvL_cc]
theorem lexpr_7 {F : Fn} {n : Nat} {C : List Int} {k B : Nat} {M : Nat} (hM : M ≤ 800000) (r : Drawn F n C k B M) {h : Hh} {a l a1 l1 : Nat} (p : PenAt h n C a l) (h1 : a1 ≤ a + 1) (ha : a + 1 + B + 2 ≤ M) (ew : wayE [some (.loc n), some (.int (k + 1 : Nat)), none, none, none, none] h = .ok (.int (7 : Nat)) (mvp h n C a1 l1)) :
    ∃ (e : Ex) (a' l' : Nat), good e ∧ dep e ≤ k + 1 ∧ a' ≤ a + 2 + B ∧ run 6 (g_l_expression A_draw F A_number A_text) [.loc n, .int (k + 1 : Nat)] h = .ok (toD e) (mvp h n C a' l') := by
  have p1 := p.mvp a1 l1
  obtain ⟨v, a2, l2, hv, h2, e2'⟩ := draw_eq p1 4 (by omega) (by omega) (by omega)
  rw [mvp_mvp] at e2'
  obtain ⟨x, a3, l3, gx, dx, h3, ex⟩ := r _ _ _ (p.mvp a2 l2) (by omega)
  rw [mvp_mvp] at ex
  obtain ⟨z, hz, ez⟩ := item2 (.str (S "f")) (.str (S "g")) (v / 3) (by omega)
  obtain ⟨w, rfl, hw⟩ : ∃ w, z = .str w ∧ nameOk w = true := by
    rcases hz with rfl | rfl
    · exact ⟨_, rfl, by decide⟩
    · exact ⟨_, rfl, by decide⟩
  have q : ∀ hh : Hh, opDiv (.int (v : Int)) (.int 3) hh = .ok (.int ((v / 3 : Nat) : Int)) hh := fun hh => by rw [div_ok _ _ hh (by omega) (by omega), Int.natCast_ediv] <;> rfl
  refine ⟨.fit w x, a3, l3, ⟨hw, gx⟩, by simp only [dep]; omega, by omega, ?_⟩
  push_cast at ew e2' q ez ⊢
  unfold g_l_expression
  change run 6 (sSeq (sSet wayE _) _) _ _ = _
  simp [run, start, sSeq, sSet, sNil, sExpr, sRet, sRetN, sIf, sNo, sPut, Dn.sFld, Dn.sFldAdd, sAug, eVar, eC, Dn.e1, Dn.e2, aNil, aCons, eTup, eLst, eCall, tE, tBl, Dn.tNot, Dn.tAnd, Dn.tOr, Dn.tYes, eIf, eAnd, eOr, eNot, eChain, eB, on1, on2, bLen, fLen, bIsi, fIsi, tyOf, isT, bAll, fAll, bAny, fAny, bStr, fStr, bInt, fInt, bAbs, fAbs, bMin, fMin, bTuple, fTuple, bList, fList, opAdd, opMul, opMod, opPow, opNeg, opSlice, eSlice, oNone, oSome, opAddI, cEq, cNe, cLt, cLe, cGt, cGe, cIn, keyD, truth, deref, Dn.gName, Dn.gNil, Dn.gCons, Dn.gTup, Dn.gStar, R.bind_ok, R.bind_no, R.thenS_ok, R.thenS_no, RS.next_nx, RS.next_rt, RS.next_no, onG_ok, eFld, fget, fput, insOf, setF, eMeth, onIns, eBM, eBM0, tyD, mAppend, mPop, mExtend, mJoin, mFind, Dn.m0, Dn.m1, Dn.m2, eBox, eFrz, eMake, big, ew, e2', ez, q, sub_one, ex, toD, isData, eqv_ss, eqv_ii, eqv_bb, eqv_tt, eqv_ll, eqv_ts, eqv_st, eqvL_nn, eqvL_nc, eqvL_cn, eqvL_cc]
theorem lexpr_num {F : Fn} {n : Nat} {C : List Int} {d w : Nat} {h : Hh} {a l a1 l1 : Nat} (p : PenAt h n C a l) (h1 : a1 ≤ a + 1) (ha : a + 10 ≤ 800000) (hw : 9 ≤ w) (hw2 : w < 12) (ew : wayE [some (.loc n), some (.int d), none, none, none, none] h = .ok (.int w) (mvp h n C a1 l1)) :
    ∃ (e : Ex) (a' l' : Nat), good e ∧ dep e ≤ 1 ∧ a' ≤ a + 4 ∧ run 6 (g_l_expression A_draw F A_number A_text) [.loc n, .int d] h = .ok (toD e) (mvp h n C a' l') := by
  obtain ⟨m, a2, l2, hm, h2, e2'⟩ := number_eq (p.mvp a1 l1) (by omega)
  rw [mvp_mvp] at e2'
  refine ⟨.num m, a2, l2, hm, by simp [dep], by omega, ?_⟩
  have w0 : ¬ (w : Int) < 5 := by omega
  have w1 : ((w : Int) == 5) = false := by simpa using (by omega : ¬ (w : Int) = 5)
  have w2 : ((w : Int) == 6) = false := by simpa using (by omega : ¬ (w : Int) = 6)
  have w3 : ((w : Int) == 7) = false := by simpa using (by omega : ¬ (w : Int) = 7)
  have w4 : ((w : Int) == 8) = false := by simpa using (by omega : ¬ (w : Int) = 8)
  have w5 : (w : Int) < 12 := by omega
  unfold g_l_expression
  change run 6 (sSeq (sSet wayE _) _) _ _ = _
  simp [run, start, sSeq, sSet, sNil, sExpr, sRet, sRetN, sIf, sNo, sPut, Dn.sFld, Dn.sFldAdd, sAug, eVar, eC, Dn.e1, Dn.e2, aNil, aCons, eTup, eLst, eCall, tE, tBl, Dn.tNot, Dn.tAnd, Dn.tOr, Dn.tYes, eIf, eAnd, eOr, eNot, eChain, eB, on1, on2, bLen, fLen, bIsi, fIsi, tyOf, isT, bAll, fAll, bAny, fAny, bStr, fStr, bInt, fInt, bAbs, fAbs, bMin, fMin, bTuple, fTuple, bList, fList, opAdd, opSub, opMul, opDiv, opMod, opPow, opNeg, opSlice, eSlice, oNone, oSome, opAddI, cEq, cNe, cLt, cLe, cGt, cGe, cIn, keyD, truth, deref, Dn.gName, Dn.gNil, Dn.gCons, Dn.gTup, Dn.gStar, R.bind_ok, R.bind_no, R.thenS_ok, R.thenS_no, RS.next_nx, RS.next_rt, RS.next_no, onG_ok, eFld, fget, fput, insOf, setF, eMeth, onIns, eBM, eBM0, tyD, mAppend, mPop, mExtend, mJoin, mFind, Dn.m0, Dn.m1, Dn.m2, eBox, eFrz, eMake, big, ew, e2', toD, isData, eqv_ss, eqv_ii, eqv_bb, eqv_tt, eqv_ll, eqv_ts, eqv_st, eqvL_nn, eqvL_nc, eqvL_cn, eqvL_cc, w0, w1, w2, w3, w4, w5]
theorem box_names (v : Nat) (hv : v < 4) : ∃ x, nameOk x = true ∧ ∀ hh : Hh, opItem (.lst [.str (S "a"), .str (S "b"), .str (S "c"), .str (S "i")]) (.int v) hh = .ok (.str x) hh := by
  have : v = 0 ∨ v = 1 ∨ v = 2 ∨ v = 3 := by omega
  rcases this with rfl | rfl | rfl | rfl
  · exact ⟨S "a", by decide, fun _ => rfl⟩
  · exact ⟨S "b", by decide, fun _ => rfl⟩
  · exact ⟨S "c", by decide, fun _ => rfl⟩
  · exact ⟨S "i", by decide, fun _ => rfl⟩
theorem lexpr_box {F : Fn} {n : Nat} {C : List Int} {d w : Nat} {h : Hh} {a l a1 l1 : Nat} (p : PenAt h n C a l) (h1 : a1 ≤ a + 1) (ha : a + 10 ≤ 800000) (hw : 12 ≤ w) (hw2 : w < 15) (ew : wayE [some (.loc n), some (.int d), none, none, none, none] h = .ok (.int w) (mvp h n C a1 l1)) :
    ∃ (e : Ex) (a' l' : Nat), good e ∧ dep e ≤ 1 ∧ a' ≤ a + 4 ∧ run 6 (g_l_expression A_draw F A_number A_text) [.loc n, .int d] h = .ok (toD e) (mvp h n C a' l') := by
  obtain ⟨v, a2, l2, hv, h2, e2'⟩ := draw_eq (p.mvp a1 l1) 4 (by omega) (by omega) (by omega)
  rw [mvp_mvp] at e2'
  obtain ⟨x, hx, ex⟩ := box_names v hv
  refine ⟨.box x, a2, l2, hx, by simp [dep], by omega, ?_⟩
  have w0 : ¬ (w : Int) < 5 := by omega
  have w1 : ((w : Int) == 5) = false := by simpa using (by omega : ¬ (w : Int) = 5)
  have w2 : ((w : Int) == 6) = false := by simpa using (by omega : ¬ (w : Int) = 6)
  have w3 : ((w : Int) == 7) = false := by simpa using (by omega : ¬ (w : Int) = 7)
  have w4 : ((w : Int) == 8) = false := by simpa using (by omega : ¬ (w : Int) = 8)
  have w5 : ¬ (w : Int) < 12 := by omega
  have w6 : (w : Int) < 15 := by omega
  push_cast at e2'
  unfold g_l_expression
  change run 6 (sSeq (sSet wayE _) _) _ _ = _
  simp [run, start, sSeq, sSet, sNil, sExpr, sRet, sRetN, sIf, sNo, sPut, Dn.sFld, Dn.sFldAdd, sAug, eVar, eC, Dn.e1, Dn.e2, aNil, aCons, eTup, eLst, eCall, tE, tBl, Dn.tNot, Dn.tAnd, Dn.tOr, Dn.tYes, eIf, eAnd, eOr, eNot, eChain, eB, on1, on2, bLen, fLen, bIsi, fIsi, tyOf, isT, bAll, fAll, bAny, fAny, bStr, fStr, bInt, fInt, bAbs, fAbs, bMin, fMin, bTuple, fTuple, bList, fList, opAdd, opSub, opMul, opDiv, opMod, opPow, opNeg, opSlice, eSlice, oNone, oSome, opAddI, cEq, cNe, cLt, cLe, cGt, cGe, cIn, keyD, truth, deref, Dn.gName, Dn.gNil, Dn.gCons, Dn.gTup, Dn.gStar, R.bind_ok, R.bind_no, R.thenS_ok, R.thenS_no, RS.next_nx, RS.next_rt, RS.next_no, onG_ok, eFld, fget, fput, insOf, setF, eMeth, onIns, eBM, eBM0, tyD, mAppend, mPop, mExtend, mJoin, mFind, Dn.m0, Dn.m1, Dn.m2, eBox, eFrz, eMake, big, ew, e2', ex, toD, isData, eqv_ss, eqv_ii, eqv_bb, eqv_tt, eqv_ll, eqv_ts, eqv_st, eqvL_nn, eqvL_nc, eqvL_cn, eqvL_cc, w0, w1, w2, w3, w4, w5, w6]
end Dk75

/-! text Dk75zf -/
set_option maxHeartbeats 1000000
set_option Elab.async false
set_option linter.all false
set_option maxRecDepth 100000
set_option autoImplicit false
set_option maxHeartbeats 8000000
/-! k75: drawn expressions, the last cases, whole. -/
namespace Dk75
open Dn
theorem lexpr_8 {F : Fn} {n : Nat} {C : List Int} {k B : Nat} {M : Nat} (hM : M ≤ 800000) (r : Drawn F n C k B M) (hk : k ≤ 40) {h : Hh} {a l a1 l1 : Nat} (p : PenAt h n C a l) (h1 : a1 ≤ a + 1) (ha : a + 1 + 3 * B + 2 ≤ M) (ew : wayE [some (.loc n), some (.int (k + 1 : Nat)), none, none, none, none] h = .ok (.int (8 : Nat)) (mvp h n C a1 l1)) :
    ∃ (e : Ex) (a' l' : Nat), good e ∧ dep e ≤ k + 1 ∧ a' ≤ a + 1 + 3 * B ∧ run 6 (g_l_expression A_draw F A_number A_text) [.loc n, .int (k + 1 : Nat)] h = .ok (toD e) (mvp h n C a' l') := by
  have p1 := p.mvp a1 l1
  have os := sub_one k
  obtain ⟨ys, a2, l2, hl, hP, h2, ec⟩ := comp_drawn B (fun y => ∃ e, good e ∧ dep e ≤ k ∧ y = toD e) (it := iRange (eC (.int 3))) (g := Dn.gName 5) (t := Dn.tYes) (f := eCall 2 F [] (aCons (eVar 0) (aCons (Dn.e2 opSub (eVar 1) (eC (.int 1))) aNil))) (vs := [5])
    (env := [some (.loc n), some (.int ((k : Int) + 1)), some (.int 8), some (.lst [.str (S "a"), .str (S "b"), .str (S "c"), .str (S "i")]), none, none]) (xs := [.int 0, .int 1, .int 2]) p1 rfl
    (fun y ⟨e, g, d, hy⟩ => by rw [hy]; exact data_toD e 50 (by omega))
    (fun x hh a l pp ha => by
      obtain ⟨e, a', l', g, d, hh2, ee⟩ := r hh a l pp ha
      refine ⟨toD e, a', l', ⟨e, g, d, rfl⟩, hh2, ?_⟩
      simp [turnC, run, start, sSeq, sSet, sNil, sExpr, sRet, sRetN, sIf, sNo, sPut, Dn.sFld, Dn.sFldAdd, sAug, eVar, eC, Dn.e1, Dn.e2, aNil, aCons, eTup, eLst, eCall, tE, tBl, Dn.tNot, Dn.tAnd, Dn.tOr, Dn.tYes, eIf, eAnd, eOr, eNot, eChain, eB, on1, on2, bLen, fLen, bIsi, fIsi, tyOf, isT, bAll, fAll, bAny, fAny, bStr, fStr, bInt, fInt, bAbs, fAbs, bMin, fMin, bTuple, fTuple, bList, fList, opAdd, opMul, opDiv, opMod, opPow, opNeg, opItem, opSlice, eSlice, oNone, oSome, opAddI, cEq, cNe, cLt, cLe, cGt, cGe, cIn, keyD, truth, deref, Dn.gName, Dn.gNil, Dn.gCons, Dn.gTup, Dn.gStar, R.bind_ok, R.bind_no, R.thenS_ok, R.thenS_no, RS.next_nx, RS.next_rt, RS.next_no, onG_ok, eFld, fget, fput, insOf, setF, eMeth, onIns, eBM, eBM0, tyD, mAppend, mPop, mExtend, mJoin, mFind, Dn.m0, Dn.m1, Dn.m2, eBox, eFrz, eMake, big, wipe, os, ee]) (by simp; omega) (by simp)
  rw [mvp_mvp] at ec
  obtain ⟨y0, y1, y2, rfl⟩ : ∃ y0 y1 y2, ys = [y0, y1, y2] := by
    match ys, hl with
    | [y0, y1, y2], _ => exact ⟨y0, y1, y2, rfl⟩
  obtain ⟨x, gx, dx, rfl⟩ := hP y0 (by simp)
  obtain ⟨y, gy, dy, rfl⟩ := hP y1 (by simp)
  obtain ⟨z, gz, dz, rfl⟩ := hP y2 (by simp)
  refine ⟨.part x y z, a2, l2, ⟨gx, gy, gz⟩, by simp only [dep]; omega, by simp at h2; omega, ?_⟩
  push_cast at ew ⊢
  unfold g_l_expression
  change run 6 (sSeq (sSet wayE _) _) _ _ = _
  simp [run, start, sSeq, sSet, sNil, sExpr, sRet, sRetN, sIf, sNo, sPut, Dn.sFld, Dn.sFldAdd, sAug, eVar, eC, Dn.e1, Dn.e2, aNil, aCons, eTup, eLst, eCall, tE, tBl, Dn.tNot, Dn.tAnd, Dn.tOr, Dn.tYes, eIf, eAnd, eOr, eNot, eChain, eB, on1, on2, bLen, fLen, bIsi, fIsi, tyOf, isT, bAll, fAll, bAny, fAny, bStr, fStr, bInt, fInt, bAbs, fAbs, bMin, fMin, bTuple, fTuple, bList, fList, opAdd, opMul, opDiv, opMod, opPow, opNeg, opSlice, eSlice, oNone, oSome, opAddI, cEq, cNe, cLt, cLe, cGt, cGe, cIn, keyD, truth, deref, Dn.gName, Dn.gNil, Dn.gCons, Dn.gTup, Dn.gStar, R.bind_ok, R.bind_no, R.thenS_ok, R.thenS_no, RS.next_nx, RS.next_rt, RS.next_no, onG_ok, eFld, fget, fput, insOf, setF, eMeth, onIns, eBM, eBM0, tyD, mAppend, mPop, mExtend, mJoin, mFind, Dn.m0, Dn.m1, Dn.m2, eBox, eFrz, eMake, big, ew, ec, toD, isData, eqv_ss, eqv_ii, eqv_bb, eqv_tt, eqv_ll, eqv_ts, eqv_st, eqvL_nn, eqvL_nc, eqvL_cn, eqvL_cc]
theorem last_three (v : Nat) (hv : v < 6) (t : D) : ∃ i : Nat, i < 3 ∧ (∀ hh : Hh, opDiv (.int (v : Int)) (.int 2) hh = .ok (.int (i : Int)) hh) ∧ (∀ hh : Hh, fMin (.int 2) (.int (i : Int)) hh = .ok (.int (i : Int)) hh) := by
  refine ⟨v / 2, by omega, fun hh => ?_, fun hh => ?_⟩
  · rw [div_ok _ _ hh (by omega) (by omega), Int.natCast_ediv] <;> rfl
  · show R.ok (D.int (if ((v / 2 : Nat) : Int) < 2 then ((v / 2 : Nat) : Int) else 2)) hh = _
    split
    · rfl
    · have : ((v / 2 : Nat) : Int) = 2 := by omega
      rw [this]
theorem lexpr_15 {F : Fn} {n : Nat} {C : List Int} {d : Nat} {h : Hh} {a l a1 l1 : Nat} (p : PenAt h n C a l) (h1 : a1 ≤ a + 1) (ha : a + 10 ≤ 800000) (ew : wayE [some (.loc n), some (.int d), none, none, none, none] h = .ok (.int (15 : Nat)) (mvp h n C a1 l1)) :
    ∃ (e : Ex) (a' l' : Nat), good e ∧ dep e ≤ 1 ∧ a' ≤ a + 4 ∧ run 6 (g_l_expression A_draw F A_number A_text) [.loc n, .int d] h = .ok (toD e) (mvp h n C a' l') := by
  obtain ⟨t, a2, l2, ht, h2, et⟩ := text_eq (p.mvp a1 l1) (by omega)
  rw [mvp_mvp] at et
  obtain ⟨v, a3, l3, hv, h3, e3⟩ := draw_eq (p.mvp a2 l2) 6 (by omega) (by omega) (by omega)
  rw [mvp_mvp] at e3
  obtain ⟨i, hi, ed, em⟩ := last_three v hv .non
  obtain ⟨e, ge, de, ee⟩ : ∃ e : Ex, good e ∧ dep e ≤ 1 ∧ ∀ hh : Hh, opItem (.lst [.tup [.str (S "text"), .str t], .tup [.str (S "why")], .tup [.str (S "where")]]) (.int (i : Int)) hh = .ok (toD e) hh := by
    have : i = 0 ∨ i = 1 ∨ i = 2 := by omega
    rcases this with rfl | rfl | rfl
    · exact ⟨.txt t, ht, Nat.le_refl _, fun _ => rfl⟩
    · exact ⟨.alone (S "why"), by show S "why" ∈ W0; decide, Nat.le_refl _, fun _ => rfl⟩
    · exact ⟨.alone (S "where"), by show S "where" ∈ W0; decide, Nat.le_refl _, fun _ => rfl⟩
  refine ⟨e, a3, l3, ge, de, by omega, ?_⟩
  push_cast at ew e3
  unfold g_l_expression
  change run 6 (sSeq (sSet wayE _) _) _ _ = _
  simp [run, start, sSeq, sSet, sNil, sExpr, sRet, sRetN, sIf, sNo, sPut, Dn.sFld, Dn.sFldAdd, sAug, eVar, eC, Dn.e1, Dn.e2, aNil, aCons, eTup, eLst, eCall, tE, tBl, Dn.tNot, Dn.tAnd, Dn.tOr, Dn.tYes, eIf, eAnd, eOr, eNot, eChain, eB, on1, on2, bLen, fLen, bIsi, fIsi, tyOf, isT, bAll, fAll, bAny, fAny, bStr, fStr, bInt, fInt, bAbs, fAbs, bMin, bTuple, fTuple, bList, fList, opAdd, opSub, opMul, opMod, opPow, opNeg, opSlice, eSlice, oNone, oSome, opAddI, cEq, cNe, cLt, cLe, cGt, cGe, cIn, keyD, truth, deref, Dn.gName, Dn.gNil, Dn.gCons, Dn.gTup, Dn.gStar, R.bind_ok, R.bind_no, R.thenS_ok, R.thenS_no, RS.next_nx, RS.next_rt, RS.next_no, onG_ok, eFld, fget, fput, insOf, setF, eMeth, onIns, eBM, eBM0, tyD, mAppend, mPop, mExtend, mJoin, mFind, Dn.m0, Dn.m1, Dn.m2, eBox, eFrz, eMake, big, ew, et, e3, ed, em, ee, isData, eqv_ss, eqv_ii, eqv_bb, eqv_tt, eqv_ll, eqv_ts, eqv_st, eqvL_nn, eqvL_nc, eqvL_cn, eqvL_cc]
end Dk75

/-! text Dk75zg -/
set_option maxHeartbeats 1000000
set_option Elab.async false
set_option linter.all false
set_option maxRecDepth 100000
set_option autoImplicit false
set_option maxHeartbeats 8000000
/-! k75: drawn expressions, whole. -/
namespace Dk75
open Dn
/-- how many draws, how far the pen may be -/
def BB : Nat → Nat
  | 0 => 0
  | d + 1 => 4 + 3 * BB d
def MM : Nat → Nat
  | 0 => 800000
  | d + 1 => MM d - (10 + 3 * BB d)
theorem lexpr_step {F : Fn} {n : Nat} {C : List Int} {k B M m : Nat} (hM : M ≤ 800000) (hk : k ≤ 40) (r : 1 ≤ k → Drawn F n C k B M) (hF : A_lexpr (m + 1) = tr 6 (g_l_expression A_draw F A_number A_text)) {M' : Nat} (hM' : M' + 10 + 3 * B ≤ M) : Drawn (A_lexpr (m + 1)) n C (k + 1) (4 + 3 * B) M' := by
  intro h a l p ha
  obtain ⟨w, a1, l1, hw, hd, h1, ew⟩ := way_eq p (by omega) (k + 1) (by omega) none none none none
  have fin : (∃ (e : Ex) (a' l' : Nat), good e ∧ dep e ≤ k + 1 ∧ a' ≤ a + (4 + 3 * B) ∧ run 6 (g_l_expression A_draw F A_number A_text) [.loc n, .int (k + 1 : Nat)] h = .ok (toD e) (mvp h n C a' l')) → ∃ (e : Ex) (a' l' : Nat), good e ∧ dep e ≤ k + 1 ∧ a' ≤ a + (4 + 3 * B) ∧ A_lexpr (m + 1) [.loc n, .int (k + 1 : Nat)] h = .ok (toD e) (mvp h n C a' l') := by
    rintro ⟨e, a', l', g, d, b, x⟩
    refine ⟨e, a', l', g, d, b, ?_⟩
    rw [hF]
    show trim _ _ = _
    rw [x, trim_len (mvp_len _ _ _ _ _)]
  refine fin ?_
  by_cases k0 : 1 ≤ k
  · have r := r k0
    by_cases w5 : w < 5
    · obtain ⟨e, a', l', g, d, b, x⟩ := lexpr_two hM r w5 p h1 (by omega) ew
      exact ⟨e, a', l', g, d, by omega, x⟩
    · have : w = 5 ∨ w = 6 ∨ w = 7 ∨ w = 8 ∨ (9 ≤ w ∧ w < 12) ∨ (12 ≤ w ∧ w < 15) ∨ w = 15 := by omega
      rcases this with rfl | rfl | rfl | rfl | ⟨w1, w2⟩ | ⟨w1, w2⟩ | rfl
      · obtain ⟨e, a', l', g, d, b, x⟩ := lexpr_5 hM r p h1 (by omega) ew
        exact ⟨e, a', l', g, d, by omega, x⟩
      · obtain ⟨e, a', l', g, d, b, x⟩ := lexpr_6 hM r p h1 (by omega) ew
        exact ⟨e, a', l', g, d, by omega, x⟩
      · obtain ⟨e, a', l', g, d, b, x⟩ := lexpr_7 hM r p h1 (by omega) ew
        exact ⟨e, a', l', g, d, by omega, x⟩
      · obtain ⟨e, a', l', g, d, b, x⟩ := lexpr_8 hM r hk p h1 (by omega) ew
        exact ⟨e, a', l', g, d, by omega, x⟩
      · obtain ⟨e, a', l', g, d, b, x⟩ := lexpr_num (F := F) p h1 (by omega) w1 w2 ew
        exact ⟨e, a', l', g, by omega, by omega, x⟩
      · obtain ⟨e, a', l', g, d, b, x⟩ := lexpr_box (F := F) p h1 (by omega) w1 w2 ew
        exact ⟨e, a', l', g, by omega, by omega, x⟩
      · obtain ⟨e, a', l', g, d, b, x⟩ := lexpr_15 (F := F) p h1 (by omega) ew
        exact ⟨e, a', l', g, by omega, by omega, x⟩
  · have w9 := hd (by omega)
    have : (9 ≤ w ∧ w < 12) ∨ (12 ≤ w ∧ w < 15) ∨ w = 15 := by omega
    rcases this with ⟨w1, w2⟩ | ⟨w1, w2⟩ | rfl
    · obtain ⟨e, a', l', g, d, b, x⟩ := lexpr_num (F := F) p h1 (by omega) w1 w2 ew
      exact ⟨e, a', l', g, by omega, by omega, x⟩
    · obtain ⟨e, a', l', g, d, b, x⟩ := lexpr_box (F := F) p h1 (by omega) w1 w2 ew
      exact ⟨e, a', l', g, by omega, by omega, x⟩
    · obtain ⟨e, a', l', g, d, b, x⟩ := lexpr_15 (F := F) p h1 (by omega) ew
      exact ⟨e, a', l', g, by omega, by omega, x⟩
theorem lexpr_all (n : Nat) (C : List Int) : ∀ (d m : Nat), 1 ≤ d → d ≤ m → d ≤ 5 → Drawn (A_lexpr m) n C d (BB d) (MM d)
  | 0, m, h, _, _ => absurd h (by omega)
  | k + 1, 0, _, h, _ => absurd h (by omega)
  | k + 1, m + 1, _, hm, h5 => by
    have b : MM (k + 1) + 10 + 3 * BB k ≤ MM k ∧ MM k ≤ 800000 := by
      have : k = 0 ∨ k = 1 ∨ k = 2 ∨ k = 3 ∨ k = 4 := by omega
      rcases this with rfl | rfl | rfl | rfl | rfl <;> decide
    exact lexpr_step (F := A_lexpr m) (M' := MM (k + 1)) b.2 (by omega) (fun hk => lexpr_all n C k m hk (by omega) (by omega)) rfl b.1
end Dk75

/-! text Dk75zh -/
set_option maxHeartbeats 1000000
set_option Elab.async false
set_option linter.all false
set_option maxRecDepth 100000
set_option autoImplicit false
set_option maxHeartbeats 8000000
/-! k75: great expressions. -/
namespace Dk75
open Dn
noncomputable def gTurn : D → Dn.Env → Hh → RS := turnS (Dn.gName 3) (sSet (Dn.e2 opItem (eLst (aCons (eTup (aCons (eC (.str (S "not"))) (aCons (eVar 1) aNil))) (aCons (eTup (aCons (eC (.str (S "cell"))) (aCons (eC (.str (S "r"))) (aCons (eVar 1) aNil)))) (aCons (eTup (aCons (eC (.str (S "-"))) (aCons (eVar 1) (aCons (eTup (aCons (eC (.str (S "why"))) aNil)) aNil)))) aNil)))) (eCall 2 A_draw [] (aCons (eVar 0) (aCons (eC (.int 3)) aNil)))) (Dn.gName 1))
theorem three (x y z : D) (v : Nat) (h : v < 3) (hh : Hh) : opItem (.lst [x, y, z]) (.int v) hh = .ok (if v = 0 then x else if v = 1 then y else z) hh := by
  have : v = 0 ∨ v = 1 ∨ v = 2 := by omega
  rcases this with rfl | rfl | rfl <;> rfl
theorem gTurn_eq {h : Hh} {n : Nat} {C : List Int} {a l : Nat} (p : PenAt h n C a l) (ha : a ≤ 900000) (e : Ex) (g : good e) (x : D) (o2 o3 o4 : Option D) :
    ∃ (e' : Ex) (a' l' : Nat), good e' ∧ dep e' ≤ dep e + 1 ∧ a' ≤ a + 1 ∧ gTurn x [some (.loc n), some (toD e), o2, o3, o4] h = .nx [some (.loc n), some (toD e'), o2, some x, o4] (mvp h n C a' l') := by
  obtain ⟨v, a1, l1, hv, h1, ev⟩ := draw_eq p 3 (by omega) (by omega) (by omega)
  have d1 : 1 ≤ dep e := by cases e <;> simp [dep]
  have it := fun hh => three (.tup [.str (S "not"), toD e]) (.tup [.str (S "cell"), .str (S "r"), toD e]) (.tup [.str (S "-"), toD e, .tup [.str (S "why")]]) v hv hh
  push_cast at ev
  obtain ⟨e', ge, de, ee⟩ : ∃ e' : Ex, good e' ∧ dep e' ≤ dep e + 1 ∧ (if v = 0 then D.tup [.str (S "not"), toD e] else if v = 1 then .tup [.str (S "cell"), .str (S "r"), toD e] else .tup [.str (S "-"), toD e, .tup [.str (S "why")]]) = toD e' := by
    have : v = 0 ∨ v = 1 ∨ v = 2 := by omega
    rcases this with rfl | rfl | rfl
    · exact ⟨.one (S "not") e, ⟨by decide, g⟩, Nat.le_refl _, rfl⟩
    · exact ⟨.cell (S "r") e, ⟨by decide, g⟩, Nat.le_refl _, rfl⟩
    · exact ⟨.two (S "-") e (.alone (S "why")), ⟨by decide, g, by show S "why" ∈ W0; decide⟩, by simp only [dep]; omega, rfl⟩
  simp only [ee] at it
  refine ⟨e', a1, l1, ge, de, h1, ?_⟩
  unfold gTurn turnS
  simp [run, start, sSeq, sSet, sNil, sExpr, sRet, sRetN, sIf, sNo, sPut, Dn.sFld, Dn.sFldAdd, sAug, eVar, eC, Dn.e1, Dn.e2, aNil, aCons, eTup, eLst, eCall, tE, tBl, Dn.tNot, Dn.tAnd, Dn.tOr, Dn.tYes, eIf, eAnd, eOr, eNot, eChain, eB, on1, on2, bLen, fLen, bIsi, fIsi, tyOf, isT, bAll, fAll, bAny, fAny, bStr, fStr, bInt, fInt, bAbs, fAbs, bMin, fMin, bTuple, fTuple, bList, fList, opAdd, opSub, opMul, opDiv, opMod, opPow, opNeg, opSlice, eSlice, oNone, oSome, opAddI, cEq, cNe, cLt, cLe, cGt, cGe, cIn, keyD, truth, deref, Dn.gName, Dn.gNil, Dn.gCons, Dn.gTup, Dn.gStar, R.bind_ok, R.bind_no, R.thenS_ok, R.thenS_no, RS.next_nx, RS.next_rt, RS.next_no, onG_ok, eFld, fget, fput, insOf, setF, eMeth, onIns, eBM, eBM0, tyD, mAppend, mPop, mExtend, mJoin, mFind, Dn.m0, Dn.m1, Dn.m2, eBox, eFrz, eMake, big, ev, it]
theorem gLoop_eq {n : Nat} {C : List Int} : ∀ (xs : List D) (h : Hh) (a l : Nat) (e : Ex) (o2 o3 o4 : Option D), PenAt h n C a l → a + xs.length ≤ 900000 → good e →
    ∃ (e' : Ex) (a' l' : Nat) (o3' : Option D), good e' ∧ dep e' ≤ dep e + xs.length ∧ a' ≤ a + xs.length ∧ forL gTurn xs [some (.loc n), some (toD e), o2, o3, o4] h = .nx [some (.loc n), some (toD e'), o2, o3', o4] (mvp h n C a' l')
  | [], h, a, l, e, o2, o3, o4, p, _, g => by
    refine ⟨e, a, l, o3, g, Nat.le_refl _, Nat.le_refl _, ?_⟩
    have self : mvp h n C a l = h := by
      unfold mvp
      refine List.ext_getElem? fun i => ?_
      by_cases z : n = i
      · subst z
        rw [List.getElem?_set_self p.lt]
        exact p.symm
      · rw [List.getElem?_set_ne z]
    rw [self]
    rfl
  | x :: xs, h, a, l, e, o2, o3, o4, p, ha, g => by
    simp only [List.length_cons] at ha
    obtain ⟨e1, a1, l1, g1, d1, h1, t⟩ := gTurn_eq p (by omega) e g x o2 o3 o4
    obtain ⟨e2, a2, l2, o3', g2, d2, h2, t2⟩ := gLoop_eq xs (mvp h n C a1 l1) a1 l1 e1 o2 (some x) o4 (p.mvp a1 l1) (by omega) g1
    rw [mvp_mvp] at t2
    refine ⟨e2, a2, l2, o3', g2, by simp only [List.length_cons]; omega, by simp only [List.length_cons]; omega, ?_⟩
    show (match gTurn x _ h with
      | .nx env h => forL gTurn xs env h
      | .ct env h => forL gTurn xs env h
      | .bk env h => .nx env h
      | r => r) = _
    rw [t]
    exact t2
end Dk75

/-! text Dk75zi -/
set_option maxHeartbeats 1000000
set_option Elab.async false
set_option linter.all false
set_option maxRecDepth 100000
set_option autoImplicit false
set_option maxHeartbeats 8000000
/-! k75: great expressions, whole. -/
namespace Dk75
open Dn
noncomputable def A_great : Fn := tr 5 (g_l_great (A_lexpr 5) A_draw)
def row1 (e : Ex) : Ex := .two (S "+") e e
def greatE (e : Ex) : Ex := .one (S "not") (.two (S "+") (.box (S "a")) (.part (row1 (row1 (row1 (row1 (.num 1))))) (.box (S "set")) (.two (S "*") (.fit (S "say") e) (.box (S "note")))))
theorem great_eq {h : Hh} {n : Nat} {C : List Int} {a l : Nat} (p : PenAt h n C a l) (ha : a ≤ 700000) : ∃ (e : Ex) (a' l' : Nat), good e ∧ dep e ≤ 12 ∧ a' ≤ a + 20 ∧ A_great [.loc n] h = .ok (toD e) (mvp h n C a' l') := by
  obtain ⟨e, a1, l1, ge, de, h1, ee⟩ := lexpr_all n C 1 5 (by omega) (by omega) (by omega) h a l p (by have : MM 1 = 799990 := rfl; omega)
  have b1 : BB 1 = 4 := rfl
  rw [b1] at h1
  obtain ⟨v, a2, l2, hv, h2, ev⟩ := draw_eq (p.mvp a1 l1) 2 (by omega) (by omega) (by omega)
  rw [mvp_mvp] at ev
  obtain ⟨e3, a3, l3, o3, g3, d3, h3, t3⟩ := gLoop_eq [.int 0, .int 1, .int 2, .int 3, .int 4, .int 5, .int 6] (mvp h n C a2 l2) a2 l2 e none none none (p.mvp a2 l2) (by simp; omega) ge
  rw [mvp_mvp] at t3
  simp only [List.length_cons, List.length_nil] at d3 h3
  push_cast at ee ev
  have key : ∃ (e : Ex) (a' l' : Nat), good e ∧ dep e ≤ 12 ∧ a' ≤ a + 20 ∧ run 5 (g_l_great (A_lexpr 5) A_draw) [.loc n] h = .ok (toD e) (mvp h n C a' l') := by
    have v2 : v = 0 ∨ v = 1 := by omega
    rcases v2 with rfl | rfl
    · refine ⟨e3, a3, l3, g3, by omega, by omega, ?_⟩
      have rg : List.range 7 = [0, 1, 2, 3, 4, 5, 6] := rfl
      unfold g_l_great
      unfold gTurn at t3
      simp [run, start, sSeq, sSet, sNil, sExpr, sRet, sRetN, sIf, sNo, sPut, Dn.sFld, Dn.sFldAdd, sAug, eVar, eC, Dn.e1, Dn.e2, aNil, aCons, eTup, eLst, eCall, tE, tBl, Dn.tNot, Dn.tAnd, Dn.tOr, Dn.tYes, eIf, eAnd, eOr, eNot, eChain, eB, on1, on2, bLen, fLen, bIsi, fIsi, tyOf, isT, bAll, fAll, bAny, fAny, bStr, fStr, bInt, fInt, bAbs, fAbs, bMin, fMin, bTuple, fTuple, bList, fList, opAdd, opSub, opMul, opDiv, opMod, opPow, opNeg, opSlice, eSlice, oNone, oSome, opAddI, cEq, cNe, cLt, cLe, cGt, cGe, cIn, keyD, truth, deref, Dn.gName, Dn.gNil, Dn.gCons, Dn.gTup, Dn.gStar, R.bind_ok, R.bind_no, R.thenS_ok, R.thenS_no, RS.next_nx, RS.next_rt, RS.next_no, onG_ok, eFld, fget, fput, insOf, setF, eMeth, onIns, eBM, eBM0, tyD, mAppend, mPop, mExtend, mJoin, mFind, Dn.m0, Dn.m1, Dn.m2, eBox, eFrz, eMake, big, sFor, iRange, ee, ev, isData, eqv_ss, eqv_ii, eqv_bb, eqv_tt, eqv_ll, eqv_ts, eqv_st, eqvL_nn, eqvL_nc, eqvL_cn, eqvL_cc, rg, t3]
    · refine ⟨greatE e, a2, l2, ?_, ?_, by omega, ?_⟩
      · refine ⟨by decide, by decide, (by show nameOk _ = true; decide), ⟨?_, (by show nameOk _ = true; decide), by decide, ⟨by decide, ge⟩, (by show nameOk _ = true; decide)⟩⟩
        refine ⟨by decide, ?_, ?_⟩ <;> (refine ⟨by decide, ?_, ?_⟩ <;> (refine ⟨by decide, ?_, ?_⟩ <;> (refine ⟨by decide, ?_, ?_⟩ <;> (show (1 : Nat) ≤ 1000000000000; omega))))
      · simp only [greatE, row1, dep]
        omega
      · have rg : List.range 4 = [0, 1, 2, 3] := rfl
        unfold g_l_great
        simp [run, start, sSeq, sSet, sNil, sExpr, sRet, sRetN, sIf, sNo, sPut, Dn.sFld, Dn.sFldAdd, sAug, eVar, eC, Dn.e1, Dn.e2, aNil, aCons, eTup, eLst, eCall, tE, tBl, Dn.tNot, Dn.tAnd, Dn.tOr, Dn.tYes, eIf, eAnd, eOr, eNot, eChain, eB, on1, on2, bLen, fLen, bIsi, fIsi, tyOf, isT, bAll, fAll, bAny, fAny, bStr, fStr, bInt, fInt, bAbs, fAbs, bMin, fMin, bTuple, fTuple, bList, fList, opAdd, opSub, opMul, opDiv, opMod, opPow, opNeg, opItem, opSlice, eSlice, oNone, oSome, opAddI, cEq, cNe, cLt, cLe, cGt, cGe, cIn, keyD, truth, deref, Dn.gName, Dn.gNil, Dn.gCons, Dn.gTup, Dn.gStar, R.bind_ok, R.bind_no, R.thenS_ok, R.thenS_no, RS.next_nx, RS.next_rt, RS.next_no, onG_ok, eFld, fget, fput, insOf, setF, eMeth, onIns, eBM, eBM0, tyD, mAppend, mPop, mExtend, mJoin, mFind, Dn.m0, Dn.m1, Dn.m2, eBox, eFrz, eMake, big, sFor, iRange, forL, turnS, ee, ev, isData, eqv_ss, eqv_ii, eqv_bb, eqv_tt, eqv_ll, eqv_ts, eqv_st, eqvL_nn, eqvL_nc, eqvL_cn, eqvL_cc, rg, greatE, row1, toD]
  obtain ⟨e, a', l', g, d, b, x⟩ := key
  refine ⟨e, a', l', g, d, b, ?_⟩
  show trim _ _ = _
  rw [x, trim_len (mvp_len _ _ _ _ _)]
end Dk75

/-! text DnU -/
set_option maxHeartbeats 1000000
set_option Elab.async false
set_option linter.all false
set_option maxRecDepth 100000
set_option autoImplicit false
/-! Dn, part U: repr of data is no longer than told. -/
namespace Dn
open PySem PySem.StrLaws
def Okc (s : Str) : Prop := ∀ c ∈ s.cps.toList, c < 1114112
theorem cps_app (a b : Str) : (a ++ b).cps.toList = a.cps.toList ++ b.cps.toList := by
  show (a.cps ++ b.cps).toList = _
  simp
theorem Okc.app {a b : Str} (ha : Okc a) (hb : Okc b) : Okc (a ++ b) := fun c hc => by
  rw [cps_app] at hc
  rcases List.mem_append.mp hc with h | h
  · exact ha c h
  · exact hb c h
theorem okc_of (s : String) : Okc (Str.ofString s) := fun c hc => by
  rw [← toS_S, cps_toS] at hc
  exact S_codes s c hc
theorem okc_toS {t : Tx} (h : ∀ q ∈ t, q < 1114112) : Okc (toS t) := fun c hc => by
  rw [cps_toS] at hc
  exact h c hc
theorem len_app (a b : Str) : (a ++ b).length = a.length + b.length := strLen_append a b
theorem char_code (c : Char) : c.toNat < 1114112 := by
  have h := c.valid
  simp only [UInt32.isValidChar, Nat.isValidChar] at h
  have e : c.toNat = c.val.toNat := rfl
  omega
theorem okc_hex (w c : Nat) : ∀ x ∈ List.replicate (w - ((Nat.toDigits 16 c).map Char.toNat).length) 48 ++ (Nat.toDigits 16 c).map Char.toNat, x < 1114112 := fun x hx => by
  rcases List.mem_append.mp hx with h | h
  · rw [List.eq_of_mem_replicate h]
    decide
  · obtain ⟨y, _, rfl⟩ := List.mem_map.mp h
    exact char_code y
theorem okc_char {q c : Nat} (hc : c < 1114112) : ∀ x ∈ PySem.Builtin.Str.reprChar q c, x < 1114112 := fun x hx => by
  have h8 := okc_hex 8 c
  have h4 := okc_hex 4 c
  have h2 := okc_hex 2 c
  unfold PySem.Builtin.Str.reprChar at hx
  dsimp only at hx
  repeat' split at hx
  all_goals first
    | (simp only [List.mem_cons, List.not_mem_nil, or_false] at hx; omega)
    | (rcases List.mem_append.mp hx with h | h
       · simp only [List.mem_cons, List.not_mem_nil, or_false] at h; omega
       · first | exact h2 x h | exact h4 x h | exact h8 x h)
theorem okc_fold (q : Nat) : ∀ (l : List Nat) (acc : Array Nat), (∀ c ∈ l, c < 1114112) → (∀ c ∈ acc.toList, c < 1114112) → ∀ c ∈ (l.foldl (fun out c => out ++ (PySem.Builtin.Str.reprChar q c).toArray) acc).toList, c < 1114112
  | [], acc, _, h => h
  | c :: r, acc, hl, h => okc_fold q r _ (fun d hd => hl d (List.mem_cons_of_mem _ hd)) fun d hd => by
    simp only [Array.toList_append, List.mem_append] at hd
    rcases hd with hd | hd
    · exact h d hd
    · exact okc_char (hl c (List.mem_cons_self ..)) d (by simpa using hd)
theorem quote_le (x : Str) : reprQuote x < 1114112 := by
  unfold reprQuote
  split <;> decide
theorem okc_repr {x : Str} (h : Okc x) : Okc (reprText x) := fun c hc => by
  unfold reprText at hc
  simp only [Array.toList_push, List.mem_append, List.mem_singleton] at hc
  rcases hc with hc | hc
  · rw [← Array.foldl_toList] at hc
    exact okc_fold _ _ _ h (fun d hd => by simp at hd; rw [hd]; exact quote_le x) c hc
  · rw [hc]
    exact quote_le x
theorem okc_join : ∀ ts : List Str, (∀ t ∈ ts, Okc t) → Okc (Str.join ", " ts)
  | [], _ => fun c hc => by
    have : (Str.join ", " []).cps.toList = [] := rfl
    rw [this] at hc
    simp at hc
  | [x], h => h x (List.mem_cons_self ..)
  | x :: y :: r, h => Okc.app (Okc.app (h x (List.mem_cons_self ..)) (okc_of ", ")) (okc_join (y :: r) fun t ht => h t (List.mem_cons_of_mem _ ht))
theorem okc_from : ∀ (ts : List Str) (k : Nat) (acc : Str), Okc acc → (∀ t ∈ ts, Okc t) → Okc (textFrom k acc ts)
  | [], _, acc, h, _ => h
  | t :: ts, k, acc, h, ht => okc_from ts (k + 1) _ (Okc.app (Okc.app h (by split <;> exact okc_of _)) (ht t (List.mem_cons_self ..))) fun u hu => ht u (List.mem_cons_of_mem _ hu)
theorem okc_tuple {ts : List Str} (h : ∀ t ∈ ts, Okc t) : Okc (tupleText ts) := Okc.app (Okc.app (okc_of "(") (okc_join ts h)) (by split <;> exact okc_of _)
theorem okc_list {ts : List Str} (h : ∀ t ∈ ts, Okc t) : Okc (listText ts) := Okc.app (okc_from ts 0 "[" (okc_of "[") h) (okc_of "]")
theorem one_len : ("(" : Str).length = 1 := rfl
theorem tuple_len (ts : List Str) : (tupleText ts).length ≤ piled ts + 3 := by
  unfold tupleText
  rw [len_app, len_app]
  have e1 : ((("(" : String) : Str)).length = 1 := rfl
  have e3 : (((if ts.length == 1 then ",)" else ")" : String) : Str)).length ≤ 2 := by split <;> decide
  have e2 : (Str.join ", " ts).length ≤ piled ts := by
    by_cases z : ts = []
    · subst z
      show (0 : Nat) ≤ _
      omega
    · have := join_length_add ts z
      omega
  rw [e1]
  omega
theorem list_len (ts : List Str) : (listText ts).length ≤ piled ts + 3 := by
  unfold listText
  rw [len_app]
  have e1 : ((("]" : String) : Str)).length = 1 := rfl
  have e0 : ((("[" : String) : Str)).length = 1 := rfl
  have e9 : ((("" : String) : Str)).length = 0 := rfl
  rw [e1]
  cases ts with
  | nil =>
    show ((("[" : String) : Str)).length + 1 ≤ _
    rw [e0]
    omega
  | cons t r =>
    show (textFrom 1 _ r).length + 1 ≤ _
    rw [textFrom_length_pos r 1 _ (by decide), len_app, len_app, piled_cons]
    have : ((if 0 > 0 then ", " else "" : String) : Str).length = 0 := rfl
    rw [this, e0]
    omega
mutual
def wt : D → Nat
  | .bl _ => 5
  | .int _ => 25
  | .str t => 10 * t.length + 2
  | .tup ds => wts ds + 3
  | .lst ds => wts ds + 3
  | _ => 4
def wts : List D → Nat
  | [] => 0
  | d :: ds => wt d + 2 + wts ds
end
mutual
def rok : D → Bool
  | .int i => decide (i.natAbs < 10 ^ 20)
  | .str t => t.all fun q => decide (q < 1114112)
  | .tup ds => roks ds
  | .lst ds => roks ds
  | _ => true
def roks : List D → Bool
  | [] => true
  | d :: ds => rok d && roks ds
end
theorem intT_len {i : Int} (h : i.natAbs < 10 ^ 20) : (intT i).length ≤ 21 := by
  have := natT_len (n := i.natAbs) (k := 20) (by decide) h
  unfold intT
  split <;> simp <;> omega
theorem intT_codes (i : Int) : ∀ q ∈ intT i, q < 1114112 := fun q hq => by
  unfold intT at hq
  split at hq
  · rcases List.mem_cons.mp hq with rfl | hq
    · decide
    · have := natT_codes _ q hq
      omega
  · have := natT_codes _ q hq
    omega
theorem log2_le {n : Nat} (h : n < 10 ^ 20) : n.log2 < 1920 := by
  by_cases z : n = 0
  · subst z
    decide
  · refine (Nat.log2_lt z).mpr (Nat.lt_of_lt_of_le h ?_)
    have : (10 : Nat) ^ 20 ≤ 2 ^ 70 := by decide
    exact Nat.le_trans this (Nat.pow_le_pow_right (by decide) (by decide))
mutual
theorem shown_ok : ∀ d : D, rok d = true → (toPy d).shown.length ≤ wt d ∧ Okc (toPy d).shown ∧ (toPy d).showable = true
  | .non, _ => ⟨by decide, okc_of "None", rfl⟩
  | .ty _, _ => ⟨by show ((("None" : String) : Str)).length ≤ 4; decide, okc_of "None", rfl⟩
  | .glb _, _ => ⟨by show ((("None" : String) : Str)).length ≤ 4; decide, okc_of "None", rfl⟩
  | .scr _, _ => ⟨by show ((("None" : String) : Str)).length ≤ 4; decide, okc_of "None", rfl⟩
  | .loc _, _ => ⟨by show ((("None" : String) : Str)).length ≤ 4; decide, okc_of "None", rfl⟩
  | .dic _ _, _ => ⟨by show ((("None" : String) : Str)).length ≤ 4; decide, okc_of "None", rfl⟩
  | .tab _ _, _ => ⟨by show ((("None" : String) : Str)).length ≤ 4; decide, okc_of "None", rfl⟩
  | .bl b, _ => by cases b <;> exact ⟨by decide, okc_of _, rfl⟩
  | .int i, h => by
    have h2 : i.natAbs < 10 ^ 20 := by simpa [rok] using h
    refine ⟨?_, ?_, ?_⟩
    · show (Str.ofString (toString i)).length ≤ 25
      rw [toString_intT, toS_length]
      have := intT_len h2
      omega
    · show Okc (Str.ofString (toString i))
      exact okc_of _
    · show decide (i.natAbs.log2 < 1920) = true
      exact decide_eq_true (log2_le h2)
  | .str t, h => by
    have h2 : ∀ q ∈ t, q < 1114112 := fun q hq => by simpa using List.all_eq_true.mp (show (t.all fun q => decide (q < 1114112)) = true from h) q hq
    refine ⟨?_, okc_repr (okc_toS h2), rfl⟩
    have := reprText_len (toS t) (fun c hc => Nat.lt_trans (okc_toS h2 c hc) (by decide))
    rw [toS_length] at this
    exact this
  | .tup ds, h => by
    obtain ⟨h1, h2, h3⟩ := shown_oks ds h
    refine ⟨?_, okc_tuple h2, h3⟩
    show (tupleText _).length ≤ wts ds + 3
    have := tuple_len (PyData.shownAll (toPys ds))
    omega
  | .lst ds, h => by
    obtain ⟨h1, h2, h3⟩ := shown_oks ds h
    refine ⟨?_, okc_list h2, h3⟩
    show (listText _).length ≤ wts ds + 3
    have := list_len (PyData.shownAll (toPys ds))
    omega
theorem shown_oks : ∀ ds : List D, roks ds = true → piled (PyData.shownAll (toPys ds)) ≤ wts ds ∧ (∀ t ∈ PyData.shownAll (toPys ds), Okc t) ∧ PyData.showableAll (toPys ds) = true
  | [], _ => ⟨Nat.le_refl _, fun t ht => by simp [toPys, PyData.shownAll] at ht, rfl⟩
  | d :: ds, h => by
    have h2 : rok d = true ∧ roks ds = true := by simpa [roks] using h
    obtain ⟨a1, a2, a3⟩ := shown_ok d h2.1
    obtain ⟨b1, b2, b3⟩ := shown_oks ds h2.2
    refine ⟨?_, fun t ht => ?_, ?_⟩
    · show piled ((toPy d).shown :: PyData.shownAll (toPys ds)) ≤ wt d + 2 + wts ds
      rw [piled_cons]
      omega
    · rcases List.mem_cons.mp (show t ∈ (toPy d).shown :: PyData.shownAll (toPys ds) from ht) with rfl | ht
      · exact a2
      · exact b2 t ht
    · show ((toPy d).showable && PyData.showableAll (toPys ds)) = true
      rw [a3, b3]
      rfl
end
theorem repr_ok {d : D} (h : Hh) (h1 : isData 40 d = true) (h2 : isSeqD d = true) (h3 : rok d = true) (h4 : wt d ≤ big) : fRepr d h = .ok (.str (reprT d)) h := by
  obtain ⟨a, b, c⟩ := shown_ok d h3
  unfold fRepr
  have z1 : (reprT d).length ≤ big := by
    unfold reprT
    have e : (toPy d).shown.cps.toList.length = (toPy d).shown.length := by simp [Str.length]
    omega
  have z2 : (reprT d).all (fun q => decide (q < 1114112)) = true := List.all_eq_true.mpr fun q hq => decide_eq_true (b q hq)
  rw [if_pos ⟨h1, h2, c, z1, z2⟩]
end Dn

/-! text Dk75zj -/
set_option maxHeartbeats 1000000
set_option Elab.async false
set_option linter.all false
set_option maxRecDepth 100000
set_option autoImplicit false
set_option maxHeartbeats 8000000
/-! k75: the law, its turns. -/
namespace Dk75
open Dn
/-! ### repr of an expression -/
theorem let_code {x : Tx} (h : nameOk x = true) : x.all (fun q => decide (q < 1114112)) = true := by
  have h2 : x.all letter = true := by
    unfold nameOk at h
    simp only [Bool.and_eq_true] at h
    exact h.2
  refine List.all_eq_true.mpr fun q hq => ?_
  have h3 := List.all_eq_true.mp h2 q hq
  have h4 : q ∈ S "abcdefghijklmnopqrstuvwxyz" := by simpa [letter] using h3
  exact decide_eq_true (S_codes _ q h4)
theorem text_code {x : Tx} (h : textOk x = true) : x.all (fun q => decide (q < 1114112)) = true := by
  have h2 : x.all signOk = true := by
    unfold textOk at h
    simp only [Bool.and_eq_true] at h
    exact h.2
  refine List.all_eq_true.mpr fun q hq => ?_
  have h3 := List.all_eq_true.mp h2 q hq
  unfold signOk at h3
  simp only [Bool.and_eq_true, decide_eq_true_eq] at h3
  exact decide_eq_true (by omega)
theorem S_code (s : String) : (S s).all (fun q => decide (q < 1114112)) = true := List.all_eq_true.mpr fun q hq => decide_eq_true (S_codes s q hq)
theorem op_code {op : Tx} (h : op ∈ OPS) : op.all (fun q => decide (q < 1114112)) = true := by
  simp only [OPS, List.mem_cons, List.not_mem_nil, or_false] at h
  rcases h with rfl | rfl | rfl | rfl | rfl | rfl | rfl | rfl | rfl | rfl <;> exact S_code _
theorem w1_code {op : Tx} (h : op ∈ W1) : op.all (fun q => decide (q < 1114112)) = true ∧ op.length ≤ 4 := by
  simp only [W1, List.mem_cons, List.not_mem_nil, or_false] at h
  rcases h with rfl | rfl <;> exact ⟨S_code _, by decide⟩
theorem w0_code {op : Tx} (h : op ∈ W0) : op.all (fun q => decide (q < 1114112)) = true ∧ op.length ≤ 5 := by
  simp only [W0, List.mem_cons, List.not_mem_nil, or_false] at h
  rcases h with rfl | rfl <;> exact ⟨S_code _, by decide⟩
theorem rok_ex : ∀ e : Ex, good e → rok (toD e) = true
  | .num n, g => by
    have g1 : n ≤ 1000000000000 := g
    have : n < 10 ^ 20 := Nat.lt_of_le_of_lt g1 (by decide)
    simp [toD, rok, roks, S_code, this]
  | .txt t, g => by simp only [toD, rok, roks, S_code, text_code g, Bool.and_self]
  | .box x, g => by simp only [toD, rok, roks, S_code, let_code g, Bool.and_self]
  | .two op a b, g => by simp only [toD, rok, roks, op_code g.1, rok_ex a g.2.1, rok_ex b g.2.2, Bool.and_self]
  | .cell x a, g => by simp only [toD, rok, roks, S_code, let_code g.1, rok_ex a g.2, Bool.and_self]
  | .fit x a, g => by simp only [toD, rok, roks, S_code, let_code g.1, rok_ex a g.2, Bool.and_self]
  | .one w a, g => by simp only [toD, rok, roks, (w1_code g.1).1, rok_ex a g.2, Bool.and_self]
  | .part a b c, g => by simp only [toD, rok, roks, S_code, rok_ex a g.1, rok_ex b g.2.1, rok_ex c g.2.2, Bool.and_self]
  | .alone w, g => by simp only [toD, rok, roks, (w0_code g).1, Bool.and_self]
theorem wt_ex : ∀ e : Ex, good e → wt (toD e) + 60 ≤ 400 * 3 ^ dep e
  | .num n, g => by
    have l : (S "number").length = 6 := by decide
    simp only [toD, wt, wts, dep, l]
    omega
  | .txt t, g => by
    have l : (S "text").length = 4 := by decide
    have g1 : textOk t = true := g
    simp [textOk] at g1
    simp only [toD, wt, wts, dep, l]
    omega
  | .box x, g => by
    have l : (S "box").length = 3 := by decide
    have := (nameOk_len g).2
    simp only [toD, wt, wts, dep, l]
    omega
  | .two op a b, g => by
    have h1 := wt_ex a g.2.1
    have h2 := wt_ex b g.2.2
    have h3 := (op_facts g.1).2.2.2.2.2.2.2.2
    have m1 : 3 ^ dep a ≤ 3 ^ max (dep a) (dep b) := Nat.pow_le_pow_right (by decide) (by omega)
    have m2 : 3 ^ dep b ≤ 3 ^ max (dep a) (dep b) := Nat.pow_le_pow_right (by decide) (by omega)
    simp only [toD, wt, wts, dep, Nat.pow_succ]
    omega
  | .cell x a, g => by
    have l : (S "cell").length = 4 := by decide
    have h1 := wt_ex a g.2
    have := (nameOk_len g.1).2
    have p : 1 ≤ 3 ^ dep a := Nat.one_le_pow _ _ (by decide)
    simp only [toD, wt, wts, dep, l, Nat.pow_succ]
    omega
  | .fit x a, g => by
    have l : (S "fit").length = 3 := by decide
    have h1 := wt_ex a g.2
    have := (nameOk_len g.1).2
    have p : 1 ≤ 3 ^ dep a := Nat.one_le_pow _ _ (by decide)
    simp only [toD, wt, wts, dep, l, Nat.pow_succ]
    omega
  | .one w a, g => by
    have h1 := wt_ex a g.2
    have := (w1_code g.1).2
    have p : 1 ≤ 3 ^ dep a := Nat.one_le_pow _ _ (by decide)
    simp only [toD, wt, wts, dep, Nat.pow_succ]
    omega
  | .part a b c, g => by
    have l : (S "part").length = 4 := by decide
    have h1 := wt_ex a g.1
    have h2 := wt_ex b g.2.1
    have h3 := wt_ex c g.2.2
    have m1 : 3 ^ dep a ≤ 3 ^ max (dep a) (max (dep b) (dep c)) := Nat.pow_le_pow_right (by decide) (by omega)
    have m2 : 3 ^ dep b ≤ 3 ^ max (dep a) (max (dep b) (dep c)) := Nat.pow_le_pow_right (by decide) (by omega)
    have m3 : 3 ^ dep c ≤ 3 ^ max (dep a) (max (dep b) (dep c)) := Nat.pow_le_pow_right (by decide) (by omega)
    simp only [toD, wt, wts, dep, l, Nat.pow_succ]
    omega
  | .alone w, g => by
    have := (w0_code g).2
    simp only [toD, wt, wts, dep]
    omega
theorem isSeq_ex (e : Ex) : isSeqD (toD e) = true := by cases e <;> rfl
theorem repr_ex {e : Ex} (g : good e) (hd : dep e ≤ 9) (h : Hh) : fRepr (toD e) h = .ok (.str (reprT (toD e))) h := by
  refine repr_ok h (data_toD e 40 (by omega)) (isSeq_ex e) (rok_ex e g) ?_
  have h1 := wt_ex e g
  have : 3 ^ dep e ≤ 3 ^ 9 := Nat.pow_le_pow_right (by decide) hd
  have : (3 : Nat) ^ 9 = 19683 := by decide
  have : big = 16777216 := by decide
  omega
end Dk75

/-! text Dk75zk -/
set_option maxHeartbeats 1000000
set_option Elab.async false
set_option linter.all false
set_option maxRecDepth 100000
set_option autoImplicit false
set_option maxHeartbeats 8000000
/-! k75: the law. -/
namespace Dk75
open Dn
noncomputable def A_law : Fn := tr 9 (g_law A_pen (A_lexpr 5) A_draw A_great A_is_expression (A_shown 9) (A_show 9) A_read)
noncomputable def lTurn : D → Dn.Env → Hh → RS := turnS (Dn.gName 3) (sExpr (eBM "list" mAppend (eVar 2) (aCons (eCall 2 (A_lexpr 5) [] (aCons (eVar 1) (aCons (Dn.e2 opAdd (eC (.int 1)) (eCall 2 A_draw [] (aCons (eVar 1) (aCons (eC (.int 4)) aNil)))) aNil))) aNil)))
abbrev hp (C : List Int) (a l : Nat) (L : List Ex) : Hh := [some (pen C a l), some (.lst (L.map toD))]
theorem pen0 (C : List Int) (a l : Nat) (o : Option O) : PenAt [some (pen C a l), o] 0 C a l := rfl
theorem mvp0 (C : List Int) (a l a' l' : Nat) (o : Option O) : mvp [some (pen C a l), o] 0 C a' l' = [some (pen C a' l'), o] := rfl
theorem app1 (C : List Int) (a l : Nat) (L : List Ex) (e : Ex) (z : L.length < 1000) : fAppend (.loc 1) (toD e) (hp C a l L) = .ok .non (hp C a l (L ++ [e])) := by
  have zz : L.length < big := Nat.lt_trans z (by decide)
  unfold fAppend hp
  simp [zz]
theorem lTurn_eq (C : List Int) (a l : Nat) (L : List Ex) (x s0 : D) (o3 o4 o5 o6 o7 o8 : Option D) (ha : a ≤ 100000) (hz : L.length < 900) :
    ∃ (e : Ex) (a' l' : Nat), good e ∧ dep e ≤ 4 ∧ a' ≤ a + 200 ∧ lTurn x [some s0, some (.loc 0), some (.loc 1), o3, o4, o5, o6, o7, o8] (hp C a l L) = .nx [some s0, some (.loc 0), some (.loc 1), some x, o4, o5, o6, o7, o8] (hp C a' l' (L ++ [e])) := by
  obtain ⟨v, a1, l1, hv, h1, ev⟩ := draw_eq (pen0 C a l (some (.lst (L.map toD)))) 4 (by omega) (by omega) (by omega)
  rw [mvp0] at ev
  have b : BB (1 + v) ≤ 160 ∧ 100010 + BB (1 + v) ≤ MM (1 + v) := by
    have : v = 0 ∨ v = 1 ∨ v = 2 ∨ v = 3 := by omega
    rcases this with rfl | rfl | rfl | rfl <;> decide
  obtain ⟨e, a2, l2, ge, de, h2, ee⟩ := lexpr_all 0 C (1 + v) 5 (by omega) (by omega) (by omega) _ a1 l1 (pen0 C a1 l1 (some (.lst (L.map toD)))) (by omega)
  rw [mvp0] at ee
  refine ⟨e, a2, l2, ge, by omega, by omega, ?_⟩
  have ap := app1 C a2 l2 L e (by omega)
  unfold hp at ap
  push_cast at ev ee
  unfold lTurn turnS
  simp [run, start, sSeq, sSet, sNil, sExpr, sRet, sRetN, sIf, sNo, sPut, Dn.sFld, Dn.sFldAdd, sAug, eVar, eC, Dn.e1, Dn.e2, aNil, aCons, eTup, eLst, eCall, tE, tBl, Dn.tNot, Dn.tAnd, Dn.tOr, Dn.tYes, eIf, eAnd, eOr, eNot, eChain, eB, on1, on2, bLen, fLen, bIsi, fIsi, tyOf, isT, bAll, fAll, bAny, fAny, bStr, fStr, bInt, fInt, bAbs, fAbs, bMin, fMin, bTuple, fTuple, bList, fList, opAdd, opSub, opMul, opDiv, opMod, opPow, opNeg, opItem, opSlice, eSlice, oNone, oSome, opAddI, cEq, cNe, cLt, cLe, cGt, cGe, cIn, keyD, truth, deref, Dn.gName, Dn.gNil, Dn.gCons, Dn.gTup, Dn.gStar, R.bind_ok, R.bind_no, R.thenS_ok, R.thenS_no, RS.next_nx, RS.next_rt, RS.next_no, onG_ok, eFld, fget, fput, insOf, setF, eMeth, onIns, eBM, eBM0, tyD, mAppend, mPop, mExtend, mJoin, mFind, Dn.m0, Dn.m1, Dn.m2, eBox, eFrz, eMake, big, ev, ee, ap]
theorem lLoop_eq (C : List Int) : ∀ (xs : List D) (a l : Nat) (L : List Ex) (s0 : D) (o3 o4 o5 o6 o7 o8 : Option D), a + 200 * xs.length ≤ 100000 → L.length + xs.length < 900 → (∀ e ∈ L, good e ∧ dep e ≤ 12) →
    ∃ (L' : List Ex) (a' l' : Nat) (o3' : Option D), (∃ M, L' = L ++ M ∧ M.length = xs.length) ∧ (∀ e ∈ L', good e ∧ dep e ≤ 12) ∧ a' ≤ a + 200 * xs.length ∧
      forL lTurn xs [some s0, some (.loc 0), some (.loc 1), o3, o4, o5, o6, o7, o8] (hp C a l L) = .nx [some s0, some (.loc 0), some (.loc 1), o3', o4, o5, o6, o7, o8] (hp C a' l' L')
  | [], a, l, L, s0, o3, o4, o5, o6, o7, o8, _, _, hL => ⟨L, a, l, o3, ⟨[], by simp, rfl⟩, hL, by omega, rfl⟩
  | x :: xs, a, l, L, s0, o3, o4, o5, o6, o7, o8, ha, hz, hL => by
    simp only [List.length_cons] at ha hz
    obtain ⟨e, a1, l1, g, d, h1, t⟩ := lTurn_eq C a l L x s0 o3 o4 o5 o6 o7 o8 (by omega) (by omega)
    obtain ⟨L', a2, l2, o3', ⟨M, hM, hMl⟩, hL', h2, t2⟩ := lLoop_eq C xs a1 l1 (L ++ [e]) s0 (some x) o4 o5 o6 o7 o8 (by omega) (by simp; omega) (fun e' he => by
      rcases List.mem_append.mp he with he | he
      · exact hL e' he
      · rw [List.mem_singleton.mp he]
        exact ⟨g, by omega⟩)
    refine ⟨L', a2, l2, o3', ⟨e :: M, by rw [hM]; simp, by simp [hMl]⟩, hL', by simp only [List.length_cons]; omega, ?_⟩
    show (match lTurn x _ _ with
      | .nx env h => forL lTurn xs env h
      | .ct env h => forL lTurn xs env h
      | .bk env h => .nx env h
      | r => r) = _
    rw [t]
    exact t2
/-- the turns that ask -/
noncomputable def qBody : DS :=
  (sSeq (sSet (eB bRepr (aCons (eVar 4) aNil)) (Dn.gName 6))
  (sSeq (sSet (eCall 1 (A_shown 9) [] (aCons (eVar 4) aNil)) (Dn.gName 7))
  (sFor (iRange (eC (.int 2))) (Dn.gName 8)
  (sIf (Dn.tOr (tBl (Dn.e2 cNe (eCall 1 (A_show 9) [] (aCons (eVar 4) aNil)) (eVar 7))) (Dn.tOr (tBl (Dn.e2 cNe (eB bRepr (aCons (eCall 1 A_read [] (aCons (eVar 7) aNil)) aNil)) (eVar 6))) (tBl (Dn.e2 cNe (eB bRepr (aCons (eVar 4) aNil)) (eVar 6)))))
  (sRet (eC (.bl false)))
  sNil))))
theorem ne_same (t : Tx) (hh : Hh) : cNe (.str t) (.str t) hh = .ok (.bl false) hh := by
  simp [cNe, deref, isData, eqv_ss]
theorem qTurn_eq (e : Ex) (g : good e) (l : legal e = true) (h : Hh) (o0 o1 o2 o3 o4 o5 o6 o7 o8 : Option D) : ∃ o6' o7' o8', turnS (Dn.gName 4) qBody (toD e) [o0, o1, o2, o3, o4, o5, o6, o7, o8] h = .nx [o0, o1, o2, o3, some (toD e), o5, o6', o7', o8'] h := by
  have hd := legal_dep l
  have rp := fun hh => repr_ex g (by omega) hh
  have sn := fun hh => shown_eq 9 e g (by omega) (by omega) hh
  have sw := fun hh => show_eq 9 e g (by omega) (by omega) hh
  have rd_ := fun hh => read_eq e g l hh
  have rg : List.range 2 = [0, 1] := rfl
  refine ⟨some (.str (reprT (toD e))), some (.str (shw e)), some (.int 1), ?_⟩
  unfold qBody turnS
  simp [run, start, sSeq, sSet, sNil, sExpr, sRet, sRetN, sIf, sNo, sPut, Dn.sFld, Dn.sFldAdd, sAug, eVar, eC, Dn.e1, Dn.e2, aNil, aCons, eTup, eLst, eCall, tE, tBl, Dn.tNot, Dn.tAnd, Dn.tOr, Dn.tYes, eIf, eAnd, eOr, eNot, eChain, eB, on1, on2, bLen, fLen, bIsi, fIsi, tyOf, isT, bAll, fAll, bAny, fAny, bStr, fStr, bInt, fInt, bAbs, fAbs, bMin, fMin, bTuple, fTuple, bList, fList, opAdd, opSub, opMul, opDiv, opMod, opPow, opNeg, opItem, opSlice, eSlice, oNone, oSome, opAddI, cEq, cLt, cLe, cGt, cGe, cIn, keyD, truth, deref, Dn.gName, Dn.gNil, Dn.gCons, Dn.gTup, Dn.gStar, R.bind_ok, R.bind_no, R.thenS_ok, R.thenS_no, RS.next_nx, RS.next_rt, RS.next_no, onG_ok, eFld, fget, fput, insOf, setF, eMeth, onIns, eBM, eBM0, tyD, mAppend, mPop, mExtend, mJoin, mFind, Dn.m0, Dn.m1, Dn.m2, eBox, eFrz, eMake, big, bRepr, sFor, iRange, forL, turnS, rg, rp, sn, sw, rd_, ne_same]
theorem qLoop_eq : ∀ (L : List Ex) (h : Hh) (o0 o1 o2 o3 o4 o5 o6 o7 o8 : Option D), (∀ e ∈ L, good e ∧ legal e = true) → ∃ o4' o6' o7' o8', forL (turnS (Dn.gName 4) qBody) (L.map toD) [o0, o1, o2, o3, o4, o5, o6, o7, o8] h = .nx [o0, o1, o2, o3, o4', o5, o6', o7', o8'] h
  | [], h, o0, o1, o2, o3, o4, o5, o6, o7, o8, _ => ⟨o4, o6, o7, o8, rfl⟩
  | e :: L, h, o0, o1, o2, o3, o4, o5, o6, o7, o8, hL => by
    obtain ⟨g, l⟩ := hL e (List.mem_cons_self ..)
    obtain ⟨o6', o7', o8', t⟩ := qTurn_eq e g l h o0 o1 o2 o3 o4 o5 o6 o7 o8
    obtain ⟨p4, p6, p7, p8, t2⟩ := qLoop_eq L h o0 o1 o2 o3 (some (toD e)) o5 o6' o7' o8' (fun e' he => hL e' (List.mem_cons_of_mem _ he))
    refine ⟨p4, p6, p7, p8, ?_⟩
    rw [List.map_cons]
    show (match turnS (Dn.gName 4) qBody (toD e) _ _ with
      | .nx env h => forL (turnS (Dn.gName 4) qBody) (L.map toD) env h
      | .ct env h => forL (turnS (Dn.gName 4) qBody) (L.map toD) env h
      | .bk env h => .nx env h
      | r => r) = _
    rw [t]
    exact t2
/-- the law's own expressions -/
def six : List Ex := [.fit (S "set") (.cell (S "say") (.box (S "note"))), .txt (S ""), .two (S "rest") (.alone (S "why")) (.alone (S "where")), .num 1000000000000, .txt (S " (a) "), .one (S "size") (.txt (S "why"))]
theorem six_ok : ∀ e ∈ six, good e ∧ dep e ≤ 12 ∧ legal e = true := by
  intro e he
  simp only [six, List.mem_cons, List.not_mem_nil, or_false] at he
  rcases he with rfl | rfl | rfl | rfl | rfl | rfl
  · exact ⟨⟨by decide, by decide, by show nameOk _ = true; decide⟩, by decide, by decide⟩
  · exact ⟨by show textOk _ = true; decide, by decide, by decide⟩
  · exact ⟨⟨by decide, by show S "why" ∈ W0; decide, by show S "where" ∈ W0; decide⟩, by decide, by decide⟩
  · exact ⟨by show (1000000000000 : Nat) ≤ 1000000000000; omega, by decide, by decide⟩
  · exact ⟨by show textOk _ = true; decide, by decide, by decide⟩
  · exact ⟨⟨by decide, by show textOk _ = true; decide⟩, by decide, by decide⟩
def dueE : Ex := .two (S "rest") (.two (S "+") (.box (S "a")) (.num 1)) (.one (S "size") (.txt (S "x")))
theorem due_good : good dueE := ⟨by decide, ⟨by decide, by show nameOk _ = true; decide, by show (1 : Nat) ≤ 1000000000000; omega⟩, by decide, by show textOk _ = true; decide⟩
theorem due_text : shw dueE = S "((a + 1) rest size(\"x\"))" := by decide
/-- the law's statements, by name -/
noncomputable def lTail : DS :=
  (sSeq (sSet (eComp (iE itL (eVar 2)) (Dn.gName 4) (tE (eCall 1 A_is_expression [] (aCons (eVar 4) aNil))) (eVar 4) [4]) (Dn.gName 2))
  (sSeq (sIf (tBl (Dn.e2 cLt (eB bLen (aCons (eVar 2) aNil)) (eC (.int 6))))
  (sRet (eC (.bl false)))
  sNil)
  (sSeq (sFor (iE itL (Dn.e2 opAdd (eVar 2) (eSlice (eVar 2) oNone (oSome (eC (.int 2)))))) (Dn.gName 4) qBody)
  (sSeq (sSet (eTup (aCons (eC (.str (S "rest"))) (aCons (eTup (aCons (eC (.str (S "+"))) (aCons (eTup (aCons (eC (.str (S "box"))) (aCons (eC (.str (S "a"))) aNil))) (aCons (eTup (aCons (eC (.str (S "number"))) (aCons (eC (.int 1)) aNil))) aNil)))) (aCons (eTup (aCons (eC (.str (S "size"))) (aCons (eTup (aCons (eC (.str (S "text"))) (aCons (eC (.str (S "x"))) aNil))) aNil))) aNil)))) (Dn.gName 5))
  (sRet (Dn.e2 cEq (eCall 1 A_read [] (aCons (eC (.str (S "((a + 1) rest size(\"x\"))"))) aNil)) (eVar 5)))))))
theorem lTail_eq (L : List Ex) (hL : ∀ e ∈ L, good e ∧ dep e ≤ 12) (h6 : ∃ M, L = six ++ M) (hz : L.length ≤ 1000) (h : Hh) (o0 o1 o3 o4 o5 o6 o7 o8 : Option D) : lTail [o0, o1, some (.lst (L.map toD)), o3, o4, o5, o6, o7, o8] h = .rt (.bl true) h := by
  have c := comp_map L toD (fun e => if legal e then some (toD e) else none) (it := iE itL (eVar 2)) (g := Dn.gName 4) (t := tE (eCall 1 A_is_expression [] (aCons (eVar 4) aNil))) (a := eVar 4) (vs := [4]) (env := [o0, o1, some (.lst (L.map toD)), o3, o4, o5, o6, o7, o8]) (h := h) (h1 := h)
    (by simp [iE, itL, run, start, sSeq, sSet, sNil, sExpr, sRet, sRetN, sIf, sNo, sPut, Dn.sFld, Dn.sFldAdd, sAug, eVar, eC, Dn.e1, Dn.e2, aNil, aCons, eTup, eLst, eCall, tE, tBl, Dn.tNot, Dn.tAnd, Dn.tOr, Dn.tYes, eIf, eAnd, eOr, eNot, eChain, eB, on1, on2, bLen, fLen, bIsi, fIsi, tyOf, isT, bAll, fAll, bAny, fAny, bStr, fStr, bInt, fInt, bAbs, fAbs, bMin, fMin, bTuple, fTuple, bList, fList, opAdd, opSub, opMul, opDiv, opMod, opPow, opNeg, opItem, opSlice, eSlice, oNone, oSome, opAddI, cEq, cNe, cLt, cLe, cGt, cGe, cIn, keyD, truth, deref, Dn.gName, Dn.gNil, Dn.gCons, Dn.gTup, Dn.gStar, R.bind_ok, R.bind_no, R.thenS_ok, R.thenS_no, RS.next_nx, RS.next_rt, RS.next_no, onG_ok, eFld, fget, fput, insOf, setF, eMeth, onIns, eBM, eBM0, tyD, mAppend, mPop, mExtend, mJoin, mFind, Dn.m0, Dn.m1, Dn.m2, eBox, eFrz, eMake, big]) (fun e he acc => by
      have := is_expression_eq e (hL e he).1 (by have := (hL e he).2; omega) (h ++ [some (.lst acc)])
      cases l : legal e <;> simp [l] at this <;> simp [turnC, run, start, sSeq, sSet, sNil, sExpr, sRet, sRetN, sIf, sNo, sPut, Dn.sFld, Dn.sFldAdd, sAug, eVar, eC, Dn.e1, Dn.e2, aNil, aCons, eTup, eLst, eCall, tE, tBl, Dn.tNot, Dn.tAnd, Dn.tOr, Dn.tYes, eIf, eAnd, eOr, eNot, eChain, eB, on1, on2, bLen, fLen, bIsi, fIsi, tyOf, isT, bAll, fAll, bAny, fAny, bStr, fStr, bInt, fInt, bAbs, fAbs, bMin, fMin, bTuple, fTuple, bList, fList, opAdd, opSub, opMul, opDiv, opMod, opPow, opNeg, opItem, opSlice, eSlice, oNone, oSome, opAddI, cEq, cNe, cLt, cLe, cGt, cGe, cIn, keyD, truth, deref, Dn.gName, Dn.gNil, Dn.gCons, Dn.gTup, Dn.gStar, R.bind_ok, R.bind_no, R.thenS_ok, R.thenS_no, RS.next_nx, RS.next_rt, RS.next_no, onG_ok, eFld, fget, fput, insOf, setF, eMeth, onIns, eBM, eBM0, tyD, mAppend, mPop, mExtend, mJoin, mFind, Dn.m0, Dn.m1, Dn.m2, eBox, eFrz, eMake, big, wipe, this, l]) (by
      refine areData_below (n := 60) _ _ (areData_all.mpr fun y hy => ?_)
      obtain ⟨e, he, hy⟩ := List.mem_filterMap.mp hy
      by_cases l : legal e = true
      · rw [if_pos l] at hy
        cases hy
        exact data_toD e 60 (by have := (hL e he).2; omega)
      · rw [if_neg l] at hy
        cases hy) (by unfold big; omega)
  have ef : L.filterMap (fun e => if legal e then some (toD e) else none) = (L.filter legal).map toD := by
    clear c h6 hz hL
    induction L with
    | nil => rfl
    | cons e L ih =>
      by_cases l : legal e = true
      · simp [l, ih]
      · simp [l, ih]
  rw [ef] at c
  have hz2 : (L.filter legal).length ≤ 1000 := Nat.le_trans (List.length_filter_le _ _) hz
  have ha : ∀ e ∈ L.filter legal, good e ∧ legal e = true := fun e he => ⟨(hL e (List.mem_filter.mp he).1).1, (List.mem_filter.mp he).2⟩
  have len6 : 6 ≤ (L.filter legal).length := by
    obtain ⟨M, rfl⟩ := h6
    rw [List.filter_append, List.length_append]
    have : (six.filter legal) = six := List.filter_eq_self.mpr fun e he => (six_ok e he).2.2
    rw [this]
    show 6 ≤ 6 + _
    omega
  generalize L.filter legal = K at *
  have z6 : ¬ ((K.length : Int) < 6) := by omega
  have sl : slc (K.map toD) none (some 2) = List.take 2 (K.map toD) := by
    unfold slc clampI
    simp
  have ad : ∀ hh : Hh, opAdd (.lst (K.map toD)) (.lst (List.take 2 (K.map toD))) hh = .ok (.lst (K.map toD ++ List.take 2 (K.map toD))) hh := fun hh => by
    show (if (K.map toD).length + (List.take 2 (K.map toD)).length ≤ big then R.ok (D.lst (K.map toD ++ List.take 2 (K.map toD))) hh else R.no) = _
    rw [if_pos (by simp only [List.length_map, List.length_take, big]; omega)]
  obtain ⟨p4, p6, p7, p8, t⟩ := qLoop_eq (K ++ K.take 2) h o0 o1 (some (.lst (K.map toD))) o3 o4 o5 o6 o7 o8 (fun e he => by
    rcases List.mem_append.mp he with he | he
    · exact ha e he
    · exact ha e (List.mem_of_mem_take he))
  have rdd := fun hh => read_eq dueE due_good (by decide) hh
  rw [due_text] at rdd
  have de : D.tup [.str (S "rest"), .tup [.str (S "+"), .tup [.str (S "box"), .str (S "a")], .tup [.str (S "number"), .int 1]], .tup [.str (S "size"), .tup [.str (S "text"), .str (S "x")]]] = toD dueE := rfl
  have eqd : ∀ hh : Hh, cEq (toD dueE) (toD dueE) hh = .ok (.bl true) hh := fun hh => rfl
  simp only [List.map_append, List.map_take] at t
  unfold lTail
  simp [run, start, sSeq, sSet, sNil, sExpr, sRet, sRetN, sIf, sNo, sPut, Dn.sFld, Dn.sFldAdd, sAug, eVar, eC, Dn.e1, Dn.e2, aNil, aCons, eTup, eLst, eCall, tE, tBl, Dn.tNot, Dn.tAnd, Dn.tOr, Dn.tYes, eIf, eAnd, eOr, eNot, eChain, eB, on1, on2, bLen, fLen, bIsi, fIsi, tyOf, isT, bAll, fAll, bAny, fAny, bStr, fStr, bInt, fInt, bAbs, fAbs, bMin, fMin, bTuple, fTuple, bList, fList, opSub, opMul, opDiv, opMod, opPow, opNeg, opItem, opSlice, eSlice, oNone, oSome, opAddI, cNe, cLt, cLe, cGt, cGe, cIn, keyD, truth, deref, Dn.gName, Dn.gNil, Dn.gCons, Dn.gTup, Dn.gStar, R.bind_ok, R.bind_no, R.thenS_ok, R.thenS_no, RS.next_nx, RS.next_rt, RS.next_no, onG_ok, eFld, fget, fput, insOf, setF, eMeth, onIns, eBM, eBM0, tyD, mAppend, mPop, mExtend, mJoin, mFind, Dn.m0, Dn.m1, Dn.m2, eBox, eFrz, eMake, big, sFor, iE, itL, c, sl, ad, z6, t, de, rdd, eqd]
theorem law_parts : g_law A_pen (A_lexpr 5) A_draw A_great A_is_expression (A_shown 9) (A_show 9) A_read =
  (sSeq (sSet (eCall 1 A_pen [] (aCons (eVar 0) aNil)) (Dn.gName 1))
  (sSeq (sSet (eLst (aCons (eTup (aCons (eC (.str (S "fit"))) (aCons (eC (.str (S "set"))) (aCons (eTup (aCons (eC (.str (S "cell"))) (aCons (eC (.str (S "say"))) (aCons (eTup (aCons (eC (.str (S "box"))) (aCons (eC (.str (S "note"))) aNil))) aNil)))) aNil)))) (aCons (eTup (aCons (eC (.str (S "text"))) (aCons (eC (.str (S ""))) aNil))) (aCons (eTup (aCons (eC (.str (S "rest"))) (aCons (eTup (aCons (eC (.str (S "why"))) aNil)) (aCons (eTup (aCons (eC (.str (S "where"))) aNil)) aNil)))) aNil)))) (Dn.gName 2))
  (sSeq (sSet (eBox (Dn.e2 opAdd (eVar 2) (eLst (aCons (eTup (aCons (eC (.str (S "number"))) (aCons (Dn.e2 opPow (eC (.int 10)) (eC (.int 12))) aNil))) (aCons (eTup (aCons (eC (.str (S "text"))) (aCons (eC (.str (S " (a) "))) aNil))) (aCons (eTup (aCons (eC (.str (S "size"))) (aCons (eTup (aCons (eC (.str (S "text"))) (aCons (eC (.str (S "why"))) aNil))) aNil))) aNil)))))) (Dn.gName 2))
  (sSeq (sFor (iRange (eC (.int 30))) (Dn.gName 3) (sExpr (eBM "list" mAppend (eVar 2) (aCons (eCall 2 (A_lexpr 5) [] (aCons (eVar 1) (aCons (Dn.e2 opAdd (eC (.int 1)) (eCall 2 A_draw [] (aCons (eVar 1) (aCons (eC (.int 4)) aNil)))) aNil))) aNil))))
  (sSeq (sSet (Dn.e2 opAdd (eFrz (eVar 2)) (eComp (iRange (eC (.int 4))) (Dn.gName 3) Dn.tYes (eCall 1 A_great [] (aCons (eVar 1) aNil)) [3])) (Dn.gName 2))
  lTail))))) := rfl
theorem seq_nx {a b : DS} {env env' : Dn.Env} {h h' : Hh} (e : a env h = .nx env' h') : sSeq a b env h = b env' h' := by
  unfold sSeq
  rw [e]
  rfl
theorem law_true (ns : List Int) (hl : ns.length ≤ 63) (hb : ∀ z ∈ ns, PySem.Builtin.Int.intBits z ≤ 1048576) : ∃ h, A_law [.scr ns] [] = .ok (.bl true) h := by
  have key : ∃ h, run 9 (g_law A_pen (A_lexpr 5) A_draw A_great A_is_expression (A_shown 9) (A_show 9) A_read) [.scr ns] [] = .ok (.bl true) h := by
    rw [law_parts]
    have pe := pen_eq ns
    generalize slc ns none (some 63) = C at pe
    have p12 : ∀ hh : Hh, opPow (.int 10) (.int 12) hh = .ok (.int 1000000000000) hh := fun hh => pow_ok 10 12 (by omega) (by decide) hh
    obtain ⟨L, a1, l1, o3, ⟨M, hM, hMl⟩, hL, h1, t⟩ := lLoop_eq C ((List.range 30).map fun k => D.int (k : Nat)) 0 0 six (.scr ns) none none none none none none (by simp) (by simp [six]) (fun e he => ⟨(six_ok e he).1, (six_ok e he).2.1⟩)
    simp only [List.length_map, List.length_range] at hMl h1
    obtain ⟨ys, a2, l2, hyl, hP, h2, ec⟩ := comp_drawn (M := 600000) 20 (fun y => ∃ e, good e ∧ dep e ≤ 12 ∧ y = toD e) (it := iRange (eC (.int 4))) (g := Dn.gName 3) (t := Dn.tYes) (f := eCall 1 A_great [] (aCons (eVar 1) aNil)) (vs := [3])
      (env := [some (.scr ns), some (.loc 0), some (.loc 1), o3, none, none, none, none, none]) (xs := [.int 0, .int 1, .int 2, .int 3]) (pen0 C a1 l1 none) rfl
      (fun y ⟨e, g, d, hy⟩ => by rw [hy]; exact data_toD e 50 (by omega))
      (fun x hh a l pp ha => by
        obtain ⟨e, a', l', g, d, hh2, ee⟩ := great_eq pp (by omega)
        refine ⟨toD e, a', l', ⟨e, g, d, rfl⟩, hh2, ?_⟩
        simp [turnC, run, start, sSeq, sSet, sNil, sExpr, sRet, sRetN, sIf, sNo, sPut, Dn.sFld, Dn.sFldAdd, sAug, eVar, eC, Dn.e1, Dn.e2, aNil, aCons, eTup, eLst, eCall, tE, tBl, Dn.tNot, Dn.tAnd, Dn.tOr, Dn.tYes, eIf, eAnd, eOr, eNot, eChain, eB, on1, on2, bLen, fLen, bIsi, fIsi, tyOf, isT, bAll, fAll, bAny, fAny, bStr, fStr, bInt, fInt, bAbs, fAbs, bMin, fMin, bTuple, fTuple, bList, fList, opAdd, opSub, opMul, opDiv, opMod, opPow, opNeg, opItem, opSlice, eSlice, oNone, oSome, opAddI, cEq, cNe, cLt, cLe, cGt, cGe, cIn, keyD, truth, deref, Dn.gName, Dn.gNil, Dn.gCons, Dn.gTup, Dn.gStar, R.bind_ok, R.bind_no, R.thenS_ok, R.thenS_no, RS.next_nx, RS.next_rt, RS.next_no, onG_ok, eFld, fget, fput, insOf, setF, eMeth, onIns, eBM, eBM0, tyD, mAppend, mPop, mExtend, mJoin, mFind, Dn.m0, Dn.m1, Dn.m2, eBox, eFrz, eMake, big, wipe, ee]) (by simp; omega) (by simp)
    rw [mvp0] at ec
    obtain ⟨N, hN, hNg⟩ : ∃ N : List Ex, ys = N.map toD ∧ ∀ e ∈ N, good e ∧ dep e ≤ 12 := by
      clear ec hyl
      induction ys with
      | nil => exact ⟨[], rfl, fun e he => by simp at he⟩
      | cons y ys ih =>
        obtain ⟨N, h1, h2⟩ := ih fun y hy => hP y (List.mem_cons_of_mem _ hy)
        obtain ⟨e, g, d, rfl⟩ := hP y (List.mem_cons_self ..)
        refine ⟨e :: N, by rw [h1]; rfl, fun e' he => ?_⟩
        rcases List.mem_cons.mp he with rfl | he
        · exact ⟨g, d⟩
        · exact h2 e' he
    subst hN
    have nl : N.length = 4 := by simpa using hyl
    have ll : L.length = 36 := by rw [hM, List.length_append, hMl]; rfl
    have ad : ∀ hh : Hh, opAdd (.lst (L.map toD)) (.lst (N.map toD)) hh = .ok (.lst ((L ++ N).map toD)) hh := fun hh => by
      show (if (L.map toD).length + (N.map toD).length ≤ big then R.ok (D.lst (L.map toD ++ N.map toD)) hh else R.no) = _
      rw [if_pos (by simp only [List.length_map, big]; omega), List.map_append]
    have tl := lTail_eq (L ++ N) (fun e he => by
      rcases List.mem_append.mp he with he | he
      · exact hL e he
      · exact hNg e he) ⟨M ++ N, by rw [hM]; simp⟩ (by simp; omega) [some (pen C a2 l2), none] (some (.scr ns)) (some (.loc 0)) o3 none none none none none
    have s6 : opAdd (.lst [.tup [.str (S "fit"), .str (S "set"), .tup [.str (S "cell"), .str (S "say"), .tup [.str (S "box"), .str (S "note")]]], .tup [.str (S "text"), .str (S "")], .tup [.str (S "rest"), .tup [.str (S "why")], .tup [.str (S "where")]]])
      (.lst [.tup [.str (S "number"), .int 1000000000000], .tup [.str (S "text"), .str (S " (a) ")], .tup [.str (S "size"), .tup [.str (S "text"), .str (S "why")]]]) [some (pen C 0 0)] = .ok (.lst (six.map toD)) [some (pen C 0 0)] := rfl
    refine ⟨[some (pen C a2 l2), none], ?_⟩
    unfold lTurn at t
    have t' : forL (turnS (Dn.gName 3) (sExpr (eBM "list" mAppend (eVar 2) (aCons (eCall 2 (A_lexpr 5) [] (aCons (eVar 1) (aCons (Dn.e2 opAdd (eC (.int 1)) (eCall 2 A_draw [] (aCons (eVar 1) (aCons (eC (.int 4)) aNil)))) aNil))) aNil)))) ((List.range 30).map fun k => D.int (k : Nat)) [some (.scr ns), some (.loc 0), some (.loc 1), none, none, none, none, none, none] [some (pen C 0 0), some (.lst (six.map toD))] = _ := t
    have t1 : sFor (iRange (eC (.int 30))) (Dn.gName 3) (sExpr (eBM "list" mAppend (eVar 2) (aCons (eCall 2 (A_lexpr 5) [] (aCons (eVar 1) (aCons (Dn.e2 opAdd (eC (.int 1)) (eCall 2 A_draw [] (aCons (eVar 1) (aCons (eC (.int 4)) aNil)))) aNil))) aNil))) [some (.scr ns), some (.loc 0), some (.loc 1), none, none, none, none, none, none] [some (pen C 0 0), some (.lst (six.map toD))] = .nx [some (.scr ns), some (.loc 0), some (.loc 1), o3, none, none, none, none, none] (hp C a1 l1 L) := by
      unfold sFor iRange
      exact t'
    have t2 : sSet (eBox (Dn.e2 opAdd (eVar 2) (eLst (aCons (eTup (aCons (eC (.str (S "number"))) (aCons (Dn.e2 opPow (eC (.int 10)) (eC (.int 12))) aNil))) (aCons (eTup (aCons (eC (.str (S "text"))) (aCons (eC (.str (S " (a) "))) aNil))) (aCons (eTup (aCons (eC (.str (S "size"))) (aCons (eTup (aCons (eC (.str (S "text"))) (aCons (eC (.str (S "why"))) aNil))) aNil))) aNil)))))) (Dn.gName 2)
        [some (.scr ns), some (.loc 0), some (.lst [.tup [.str (S "fit"), .str (S "set"), .tup [.str (S "cell"), .str (S "say"), .tup [.str (S "box"), .str (S "note")]]], .tup [.str (S "text"), .str (S "")], .tup [.str (S "rest"), .tup [.str (S "why")], .tup [.str (S "where")]]]), none, none, none, none, none, none] [some (pen C 0 0)]
        = .nx [some (.scr ns), some (.loc 0), some (.loc 1), none, none, none, none, none, none] [some (pen C 0 0), some (.lst (six.map toD))] := by
      simp [run, start, sSeq, sSet, sNil, sExpr, sRet, sRetN, sIf, sNo, sPut, Dn.sFld, Dn.sFldAdd, sAug, eVar, eC, Dn.e1, Dn.e2, aNil, aCons, eTup, eLst, eCall, tE, tBl, Dn.tNot, Dn.tAnd, Dn.tOr, Dn.tYes, eIf, eAnd, eOr, eNot, eChain, eB, on1, on2, bLen, fLen, bIsi, fIsi, tyOf, isT, bAll, fAll, bAny, fAny, bStr, fStr, bInt, fInt, bAbs, fAbs, bMin, fMin, bTuple, fTuple, bList, fList, opSub, opMul, opDiv, opMod, opNeg, opItem, opSlice, eSlice, oNone, oSome, opAddI, cEq, cNe, cLt, cLe, cGt, cGe, cIn, keyD, truth, deref, Dn.gName, Dn.gNil, Dn.gCons, Dn.gTup, Dn.gStar, R.bind_ok, R.bind_no, R.thenS_ok, R.thenS_no, RS.next_nx, RS.next_rt, RS.next_no, onG_ok, eFld, fget, fput, insOf, setF, eMeth, onIns, eBM, eBM0, tyD, mAppend, mPop, mExtend, mJoin, mFind, Dn.m0, Dn.m1, Dn.m2, eBox, eFrz, eMake, big, p12, s6]
    have t3 : sSet (Dn.e2 opAdd (eFrz (eVar 2)) (eComp (iRange (eC (.int 4))) (Dn.gName 3) Dn.tYes (eCall 1 A_great [] (aCons (eVar 1) aNil)) [3])) (Dn.gName 2) [some (.scr ns), some (.loc 0), some (.loc 1), o3, none, none, none, none, none] (hp C a1 l1 L) = .nx [some (.scr ns), some (.loc 0), some (.lst (List.map toD (L ++ N))), o3, none, none, none, none, none] [some (pen C a2 l2), none] := by
      unfold hp
      simp only [run, start, sSeq, sSet, sNil, sExpr, sRet, sRetN, sIf, sNo, sPut, Dn.sFld, Dn.sFldAdd, sAug, eVar, eC, Dn.e1, Dn.e2, aNil, aCons, eTup, eLst, eCall, tE, tBl, Dn.tNot, Dn.tAnd, Dn.tOr, Dn.tYes, eIf, eAnd, eOr, eNot, eChain, eB, on1, on2, bLen, fLen, bIsi, fIsi, tyOf, isT, bAll, fAll, bAny, fAny, bStr, fStr, bInt, fInt, bAbs, fAbs, bMin, fMin, bTuple, fTuple, bList, fList, opSub, opMul, opDiv, opMod, opPow, opNeg, opItem, opSlice, eSlice, oNone, oSome, opAddI, cEq, cNe, cLt, cLe, cGt, cGe, cIn, keyD, truth, deref, Dn.gName, Dn.gNil, Dn.gCons, Dn.gTup, Dn.gStar, R.bind_ok, R.bind_no, R.thenS_ok, R.thenS_no, RS.next_nx, RS.next_rt, RS.next_no, onG_ok, eFld, fget, fput, insOf, setF, eMeth, onIns, eBM, eBM0, tyD, mAppend, mPop, mExtend, mJoin, mFind, Dn.m0, Dn.m1, Dn.m2, eBox, eFrz, eMake, big, List.getElem?_cons_zero, List.getElem?_cons_succ, List.set_cons_zero, List.set_cons_succ, ec, ad]
    have t0 : sSet (eCall 1 A_pen [] (aCons (eVar 0) aNil)) (Dn.gName 1) (start 9 [.scr ns]) [] = .nx [some (.scr ns), some (.loc 0), none, none, none, none, none, none, none] [some (pen C 0 0)] := by
      simp [run, start, sSeq, sSet, sNil, sExpr, sRet, sRetN, sIf, sNo, sPut, Dn.sFld, Dn.sFldAdd, sAug, eVar, eC, Dn.e1, Dn.e2, aNil, aCons, eTup, eLst, eCall, tE, tBl, Dn.tNot, Dn.tAnd, Dn.tOr, Dn.tYes, eIf, eAnd, eOr, eNot, eChain, eB, on1, on2, bLen, fLen, bIsi, fIsi, tyOf, isT, bAll, fAll, bAny, fAny, bStr, fStr, bInt, fInt, bAbs, fAbs, bMin, fMin, bTuple, fTuple, bList, fList, opAdd, opSub, opMul, opDiv, opMod, opPow, opNeg, opItem, opSlice, eSlice, oNone, oSome, opAddI, cEq, cNe, cLt, cLe, cGt, cGe, cIn, keyD, truth, deref, Dn.gName, Dn.gNil, Dn.gCons, Dn.gTup, Dn.gStar, R.bind_ok, R.bind_no, R.thenS_ok, R.thenS_no, RS.next_nx, RS.next_rt, RS.next_no, onG_ok, eFld, fget, fput, insOf, setF, eMeth, onIns, eBM, eBM0, tyD, mAppend, mPop, mExtend, mJoin, mFind, Dn.m0, Dn.m1, Dn.m2, eBox, eFrz, eMake, big, pe]
    have tz : sSet (eLst (aCons (eTup (aCons (eC (.str (S "fit"))) (aCons (eC (.str (S "set"))) (aCons (eTup (aCons (eC (.str (S "cell"))) (aCons (eC (.str (S "say"))) (aCons (eTup (aCons (eC (.str (S "box"))) (aCons (eC (.str (S "note"))) aNil))) aNil)))) aNil)))) (aCons (eTup (aCons (eC (.str (S "text"))) (aCons (eC (.str (S ""))) aNil))) (aCons (eTup (aCons (eC (.str (S "rest"))) (aCons (eTup (aCons (eC (.str (S "why"))) aNil)) (aCons (eTup (aCons (eC (.str (S "where"))) aNil)) aNil)))) aNil)))) (Dn.gName 2)
        [some (.scr ns), some (.loc 0), none, none, none, none, none, none, none] [some (pen C 0 0)] = .nx [some (.scr ns), some (.loc 0), some (.lst [.tup [.str (S "fit"), .str (S "set"), .tup [.str (S "cell"), .str (S "say"), .tup [.str (S "box"), .str (S "note")]]], .tup [.str (S "text"), .str (S "")], .tup [.str (S "rest"), .tup [.str (S "why")], .tup [.str (S "where")]]]), none, none, none, none, none, none] [some (pen C 0 0)] := by
      simp [run, start, sSeq, sSet, sNil, sExpr, sRet, sRetN, sIf, sNo, sPut, Dn.sFld, Dn.sFldAdd, sAug, eVar, eC, Dn.e1, Dn.e2, aNil, aCons, eTup, eLst, eCall, tE, tBl, Dn.tNot, Dn.tAnd, Dn.tOr, Dn.tYes, eIf, eAnd, eOr, eNot, eChain, eB, on1, on2, bLen, fLen, bIsi, fIsi, tyOf, isT, bAll, fAll, bAny, fAny, bStr, fStr, bInt, fInt, bAbs, fAbs, bMin, fMin, bTuple, fTuple, bList, fList, opAdd, opSub, opMul, opDiv, opMod, opPow, opNeg, opItem, opSlice, eSlice, oNone, oSome, opAddI, cEq, cNe, cLt, cLe, cGt, cGe, cIn, keyD, truth, deref, Dn.gName, Dn.gNil, Dn.gCons, Dn.gTup, Dn.gStar, R.bind_ok, R.bind_no, R.thenS_ok, R.thenS_no, RS.next_nx, RS.next_rt, RS.next_no, onG_ok, eFld, fget, fput, insOf, setF, eMeth, onIns, eBM, eBM0, tyD, mAppend, mPop, mExtend, mJoin, mFind, Dn.m0, Dn.m1, Dn.m2, eBox, eFrz, eMake, big]
    unfold run
    rw [seq_nx t0, seq_nx tz, seq_nx t2, seq_nx t1, seq_nx t3, tl]
  obtain ⟨h, e⟩ := key
  show ∃ h, trim [] _ = _
  rw [e, trim_ok]
  split <;> exact ⟨_, rfl⟩
end Dk75

/-! text D75A -/
set_option maxHeartbeats 1000000
set_option Elab.async false
set_option linter.all false
set_option maxRecDepth 100000
set_option autoImplicit false
set_option maxHeartbeats 4000000
/-! k75: the defs' derivations (printed by gendn.py). -/
namespace Dk75
open PySem L2 Dn PyProof.Rows
abbrev top (i : Nat) : Stmt := PySem.Challenge.pw_numberedlines_k75_expressions_written_an.main.body.getD i (.Pass ⟨0, 0, 0, 0⟩)
def clsB : Stmt → List Stmt
  | .ClassDef (body := b) .. => b
  | _ => []
abbrev mem (i j : Nat) : Stmt := (clsB (top i)).getD j (.Pass ⟨0, 0, 0, 0⟩)
/-! ### is_name -/
theorem sc_is_name : FnScope ["thing", "sign"] ["thing"] (defScope (top 12)) := ⟨rfl, rfl, rfl, by decide +kernel, rfl, by decide +kernel, by decide +kernel⟩
theorem d_is_name {P : Program} {w : World} {K : PySem.W.Frag} {mg : Str → Option Value} {base : Heap} {k : Nat} {f : Addr} {fd : FuncData}
  (F : FunD K "is_name" "is_name" (defArgs (top 12)) (defBody (top 12)) (defScope (top 12)) [] [] f fd)
  (n_str : mg "str" = none)
  (n_isinstance : mg "isinstance" = none)
  (n_len : mg "len" = none)
  (n_all : mg "all" = none)
  (g_LONGEST_NAME : Glb K w mg "LONGEST_NAME" k_LONGEST_NAME)
  (g_BARRED : Glb K w mg "BARRED" k_BARRED)
  (g_LETTERS : Glb K w mg "LETTERS" k_LETTERS) :
  FnDen P w K mg base (k + 1) f fd ["thing"] (fun ds h => Dn.trim h (run 2 (g_is_name) ds h)) :=
  FunD.den F sc_is_name fun cdv A outer s H E ok =>
  (denss_cons (dens_if (dent_w (denw_or (dent_not (dent_e (den_callB call_isi calD_isi rfl n_isinstance boot_isinstance (dena_cons (den_var 0) (dena_cons (den_ty rfl n_str boot_str) dena_nil))))) (denw_or (dent_not (dent_lele den_int (den_callB call_lenAll calD_len rfl n_len boot_len (dena_cons (den_var 0) dena_nil)) (den_glob rfl g_LONGEST_NAME rfl))) (denw_or1 (dent_in ok.units (den_var 0) (den_glob rfl g_BARRED rfl))))))
  (denss_one (dens_ret den_bl))
  denss_nil)
  (denss_one (dens_ret (den_callB (cr_all ok.calm) calD_all rfl n_all boot_all (dena_cons (den_comp (own := [("sign", 1)]) ok.calm ok.nd (denI_str (den_var 0)) (blkOk_by (by kernel_rfl)) (fun _ _ _ _ _ => (deng_name 1 ok.nd)) (fun _ _ _ _ _ => ptsYes) (fun _ _ _ _ _ => (den_in ok.units (den_var 1) (den_glob rfl g_LETTERS rfl)))) dena_nil)))))
/-! ### is_whole -/
theorem sc_is_whole : FnScope ["thing", "least", "greatest"] ["thing", "least", "greatest"] (defScope (top 13)) := ⟨rfl, rfl, rfl, by decide +kernel, rfl, by decide +kernel, by decide +kernel⟩
theorem d_is_whole {P : Program} {w : World} {K : PySem.W.Frag} {mg : Str → Option Value} {base : Heap} {k : Nat} {f : Addr} {fd : FuncData}
  (F : FunD K "is_whole" "is_whole" (defArgs (top 13)) (defBody (top 13)) (defScope (top 13)) [] [] f fd)
  (n_int : mg "int" = none)
  (n_isinstance : mg "isinstance" = none)
  (n_bool : mg "bool" = none) :
  FnDen P w K mg base (k + 1) f fd ["thing", "least", "greatest"] (fun ds h => Dn.trim h (run 3 (g_is_whole) ds h)) :=
  FunD.den F sc_is_whole fun cdv A outer s H E ok =>
  (denss_one (dens_ret (den_and (den_callB call_isi calD_isi rfl n_isinstance boot_isinstance (dena_cons (den_var 0) (dena_cons (den_ty rfl n_int boot_int) dena_nil))) (den_and (den_not (den_callB call_isi calD_isi rfl n_isinstance boot_isinstance (dena_cons (den_var 0) (dena_cons (den_ty rfl n_bool boot_bool) dena_nil)))) (den_one (den_lele (den_var 1) (den_var 0) (den_var 2)))))))
/-! ### is_text -/
theorem sc_is_text : FnScope ["thing", "sign"] ["thing"] (defScope (top 14)) := ⟨rfl, rfl, rfl, by decide +kernel, rfl, by decide +kernel, by decide +kernel⟩
theorem d_is_text {P : Program} {w : World} {K : PySem.W.Frag} {mg : Str → Option Value} {base : Heap} {k : Nat} {f : Addr} {fd : FuncData}
  (F : FunD K "is_text" "is_text" (defArgs (top 14)) (defBody (top 14)) (defScope (top 14)) [] [] f fd)
  (n_str : mg "str" = none)
  (n_isinstance : mg "isinstance" = none)
  (n_len : mg "len" = none)
  (n_all : mg "all" = none)
  (g_LONGEST_TEXT : Glb K w mg "LONGEST_TEXT" k_LONGEST_TEXT) :
  FnDen P w K mg base (k + 1) f fd ["thing"] (fun ds h => Dn.trim h (run 2 (g_is_text) ds h)) :=
  FunD.den F sc_is_text fun cdv A outer s H E ok =>
  (denss_cons (dens_if (dent_w (denw_or (dent_not (dent_e (den_callB call_isi calD_isi rfl n_isinstance boot_isinstance (dena_cons (den_var 0) (dena_cons (den_ty rfl n_str boot_str) dena_nil))))) (denw_or1 (dent_gt (den_callB call_lenAll calD_len rfl n_len boot_len (dena_cons (den_var 0) dena_nil)) (den_glob rfl g_LONGEST_TEXT rfl)))))
  (denss_one (dens_ret den_bl))
  denss_nil)
  (denss_one (dens_ret (den_callB (cr_all ok.calm) calD_all rfl n_all boot_all (dena_cons (den_comp (own := [("sign", 1)]) ok.calm ok.nd (denI_str (den_var 0)) (blkOk_by (by kernel_rfl)) (fun _ _ _ _ _ => (deng_name 1 ok.nd)) (fun _ _ _ _ _ => ptsYes) (fun _ _ _ _ _ => (den_and (den_lele (den_str " " rfl) (den_var 1) (den_str "~" rfl)) (den_one (den_ne ok.units (den_var 1) (den_str "\"" rfl)))))) dena_nil)))))
/-! ### is_tuple -/
theorem sc_is_tuple : FnScope ["thing", "least", "most"] ["thing", "least", "most"] (defScope (top 15)) := ⟨rfl, rfl, rfl, by decide +kernel, rfl, by decide +kernel, by decide +kernel⟩
theorem d_is_tuple {P : Program} {w : World} {K : PySem.W.Frag} {mg : Str → Option Value} {base : Heap} {k : Nat} {f : Addr} {fd : FuncData}
  (F : FunD K "is_tuple" "is_tuple" (defArgs (top 15)) (defBody (top 15)) (defScope (top 15)) [] [] f fd)
  (n_tuple : mg "tuple" = none)
  (n_isinstance : mg "isinstance" = none)
  (n_len : mg "len" = none) :
  FnDen P w K mg base (k + 1) f fd ["thing", "least", "most"] (fun ds h => Dn.trim h (run 3 (g_is_tuple) ds h)) :=
  FunD.den F sc_is_tuple fun cdv A outer s H E ok =>
  (denss_one (dens_ret (den_and (den_callB call_isi calD_isi rfl n_isinstance boot_isinstance (dena_cons (den_var 0) (dena_cons (den_ty rfl n_tuple boot_tuple) dena_nil))) (den_one (den_lele (den_var 1) (den_callB call_lenAll calD_len rfl n_len boot_len (dena_cons (den_var 0) dena_nil)) (den_var 2))))))
/-! ### is_worded -/
theorem sc_is_worded : FnScope ["thing"] ["thing"] (defScope (top 16)) := ⟨rfl, rfl, rfl, by decide +kernel, rfl, by decide +kernel, by decide +kernel⟩
theorem d_is_worded {P : Program} {w : World} {K : PySem.W.Frag} {mg : Str → Option Value} {base : Heap} {k : Nat} {f : Addr} {fd : FuncData} {F_is_tuple : Fn}
  (F : FunD K "is_worded" "is_worded" (defArgs (top 16)) (defBody (top 16)) (defScope (top 16)) [] [] f fd)
  (c_is_tuple : CallG P w K mg base "is_tuple" k 3 F_is_tuple [])
  (n_str : mg "str" = none)
  (n_isinstance : mg "isinstance" = none)
  (g_LAST_NUMBER : Glb K w mg "LAST_NUMBER" k_LAST_NUMBER) :
  FnDen P w K mg base (k + 1) f fd ["thing"] (fun ds h => Dn.trim h (run 1 (g_is_worded F_is_tuple) ds h)) :=
  FunD.den F sc_is_worded fun cdv A outer s H E ok =>
  (denss_one (dens_ret (den_and (den_call ⟨c_is_tuple⟩ ok.room ok.gd ok.tk rfl (dena_cons (den_var 0) (dena_cons den_int (dena_cons (den_glob rfl g_LAST_NUMBER rfl) dena_nil)))) (den_one (den_callB call_isi calD_isi rfl n_isinstance boot_isinstance (dena_cons (den_item ok.units (den_var 0) den_int (fun _ _ => rfl)) (dena_cons (den_ty rfl n_str boot_str) dena_nil)))))))
/-! ### parts_of -/
theorem sc_parts_of : FnScope ["expression", "word", "rest"] ["expression"] (defScope (top 17)) := ⟨rfl, rfl, rfl, by decide +kernel, rfl, by decide +kernel, by decide +kernel⟩
theorem d_parts_of {P : Program} {w : World} {K : PySem.W.Frag} {mg : Str → Option Value} {base : Heap} {k : Nat} {f : Addr} {fd : FuncData}
  (F : FunD K "parts_of" "parts_of" (defArgs (top 17)) (defBody (top 17)) (defScope (top 17)) [] [] f fd)
   :
  FnDen P w K mg base (k + 1) f fd ["expression"] (fun ds h => Dn.trim h (run 3 (g_parts_of) ds h)) :=
  FunD.den F sc_parts_of fun cdv A outer s H E ok =>
  (denss_cons (dens_set [1, 2] (den_var 0) (deng_star ok.calm (dengs_cons (deng_name 1 ok.nd) (dengs_star (dengs_cons (deng_name 2 ok.nd) dengs_nil)))))
  (denss_cons (dens_if (dent_in ok.units (den_var 1) (den_tup (dena_cons (den_str "number" rfl) (dena_cons (den_str "text" rfl) (dena_cons (den_str "box" rfl) dena_nil)))))
  (denss_one (dens_ret (den_lst dena_nil)))
  denss_nil)
  (denss_one (dens_ret (den_if (dent_in ok.units (den_var 1) (den_tup (dena_cons (den_str "cell" rfl) (dena_cons (den_str "fit" rfl) dena_nil)))) (den_slice (den_var 2) (deno_some den_int) deno_none) (den_var 2))))))
/-! ### has_form -/
theorem sc_has_form : FnScope ["thing", "word", "rest"] ["thing"] (defScope (top 18)) := ⟨rfl, rfl, rfl, by decide +kernel, rfl, by decide +kernel, by decide +kernel⟩
theorem d_has_form {P : Program} {w : World} {K : PySem.W.Frag} {mg : Str → Option Value} {base : Heap} {k : Nat} {f : Addr} {fd : FuncData} {F_is_worded : Fn} {F_is_whole : Fn} {F_is_text : Fn} {F_is_name : Fn} {F_parts_of : Fn}
  (F : FunD K "has_form" "has_form" (defArgs (top 18)) (defBody (top 18)) (defScope (top 18)) [] [] f fd)
  (c_is_worded : CallG P w K mg base "is_worded" k 1 F_is_worded [])
  (c_is_whole : CallG P w K mg base "is_whole" k 3 F_is_whole [])
  (c_is_text : CallG P w K mg base "is_text" k 1 F_is_text [])
  (c_is_name : CallG P w K mg base "is_name" k 1 F_is_name [])
  (c_parts_of : CallG P w K mg base "parts_of" k 1 F_parts_of [])
  (n_len : mg "len" = none)
  (g_GREATEST : Glb K w mg "GREATEST" k_GREATEST)
  (g_SIGNS_words : Glb K w mg "SIGNS_words" k_SIGNS_words)
  (g_WITHIN : Glb K w mg "WITHIN" k_WITHIN) :
  FnDen P w K mg base (k + 1) f fd ["thing"] (fun ds h => Dn.trim h (run 3 (g_has_form F_is_worded F_is_whole F_is_text F_is_name F_parts_of) ds h)) :=
  FunD.den F sc_has_form fun cdv A outer s H E ok =>
  (denss_cons (dens_if (dent_not (dent_e (den_call ⟨c_is_worded⟩ ok.room ok.gd ok.tk rfl (dena_cons (den_var 0) dena_nil))))
  (denss_one (dens_ret den_bl))
  denss_nil)
  (denss_cons (dens_set [1, 2] (den_var 0) (deng_star ok.calm (dengs_cons (deng_name 1 ok.nd) (dengs_star (dengs_cons (deng_name 2 ok.nd) dengs_nil)))))
  (denss_cons (dens_if (dent_in ok.units (den_var 1) (den_tup (dena_cons (den_str "number" rfl) (dena_cons (den_str "text" rfl) dena_nil))))
  (denss_one (dens_ret (den_and (den_eq ok.units (den_callB call_lenAll calD_len rfl n_len boot_len (dena_cons (den_var 2) dena_nil)) den_int) (den_one (den_if (dent_eq ok.units (den_var 1) (den_str "number" rfl)) (den_call ⟨c_is_whole⟩ ok.room ok.gd ok.tk rfl (dena_cons (den_item ok.units (den_var 2) den_int (fun _ _ => rfl)) (dena_cons den_int (dena_cons (den_glob rfl g_GREATEST rfl) dena_nil)))) (den_call ⟨c_is_text⟩ ok.room ok.gd ok.tk rfl (dena_cons (den_item ok.units (den_var 2) den_int (fun _ _ => rfl)) dena_nil)))))))
  denss_nil)
  (denss_cons (dens_if (dent_eq ok.units (den_var 1) (den_str "box" rfl))
  (denss_one (dens_ret (den_and (den_eq ok.units (den_callB call_lenAll calD_len rfl n_len boot_len (dena_cons (den_var 2) dena_nil)) den_int) (den_one (den_call ⟨c_is_name⟩ ok.room ok.gd ok.tk rfl (dena_cons (den_item ok.units (den_var 2) den_int (fun _ _ => rfl)) dena_nil))))))
  denss_nil)
  (denss_cons (dens_if (dent_w (denw_and (dent_in ok.units (den_var 1) (den_tup (dena_cons (den_str "cell" rfl) (dena_cons (den_str "fit" rfl) dena_nil)))) (denw_and1 (dent_w (denw_or (dent_eq ok.units (den_var 2) (den_lst dena_nil)) (denw_or1 (dent_not (dent_e (den_call ⟨c_is_name⟩ ok.room ok.gd ok.tk rfl (dena_cons (den_item ok.units (den_var 2) den_int (fun _ _ => rfl)) dena_nil))))))))))
  (denss_one (dens_ret den_bl))
  denss_nil)
  (denss_cons (dens_if (dent_in ok.units (den_var 1) (den_glob rfl g_SIGNS_words rfl))
  (denss_one (dens_ret (den_eq ok.units (den_callB call_lenAll calD_len rfl n_len boot_len (dena_cons (den_var 2) dena_nil)) den_int)))
  denss_nil)
  (denss_one (dens_ret (den_and (den_in ok.units (den_var 1) (den_glob rfl g_WITHIN rfl)) (den_one (den_eq ok.units (den_callB call_lenAll calD_len rfl n_len boot_len (dena_cons (den_call ⟨c_parts_of⟩ ok.room ok.gd ok.tk rfl (dena_cons (den_var 0) dena_nil)) dena_nil)) (den_item ok.units (den_glob rfl g_WITHIN rfl) (den_var 1) (fun _ _ => rfl)))))))))))))
/-! ### is_expression -/
theorem sc_is_expression : FnScope ["thing", "left", "many", "part", "deep", "inner"] ["thing"] (defScope (top 19)) := ⟨rfl, rfl, rfl, by decide +kernel, rfl, by decide +kernel, by decide +kernel⟩
theorem d_is_expression {P : Program} {w : World} {K : PySem.W.Frag} {mg : Str → Option Value} {base : Heap} {k : Nat} {f : Addr} {fd : FuncData} {F_has_form : Fn} {F_parts_of : Fn}
  (F : FunD K "is_expression" "is_expression" (defArgs (top 19)) (defBody (top 19)) (defScope (top 19)) [] [] f fd)
  (c_has_form : CallG P w K mg base "has_form" k 1 F_has_form [])
  (c_parts_of : CallG P w K mg base "parts_of" k 1 F_parts_of [])
  (g_DEEPEST : Glb K w mg "DEEPEST" k_DEEPEST)
  (g_MOST_EXPRESSIONS : Glb K w mg "MOST_EXPRESSIONS" k_MOST_EXPRESSIONS) :
  FnDen P w K mg base (k + 1) f fd ["thing"] (fun ds h => Dn.trim h (run 6 (g_is_expression F_has_form F_parts_of) ds h)) :=
  FunD.den F sc_is_expression fun cdv A outer s H E ok =>
  (denss_cons (dens_set [1] (den_lstBox (dena_cons (den_tup (dena_cons (den_var 0) (dena_cons den_int dena_nil))) dena_nil)) (deng_name 1 ok.nd))
  (denss_cons (dens_set [2] den_int (deng_name 2 ok.nd))
  (denss_cons (dens_while lots ok.po (dent_ne ok.units (den_var 1) (den_lst dena_nil))
  (denss_cons (dens_set [3, 4] (den_bm0 PySem.F.plainAttrs_list PySem.F.slot_list_pop PySem.F.type_list_pop mt_pop mtD_pop (den_var 1)) (deng_tup ok.calm (dengs_cons (deng_name 3 ok.nd) (dengs_cons (deng_name 4 ok.nd) dengs_nil))))
  (denss_cons (dens_aug 2 ok.nd ip_add opD_addI den_int)
  (denss_cons (dens_if (dent_w (denw_or (dent_gt (den_var 4) (den_glob rfl g_DEEPEST rfl)) (denw_or (dent_gt (den_var 2) (den_glob rfl g_MOST_EXPRESSIONS rfl)) (denw_or1 (dent_not (dent_e (den_call ⟨c_has_form⟩ ok.room ok.gd ok.tk rfl (dena_cons (den_var 3) dena_nil))))))))
  (denss_one (dens_ret den_bl))
  denss_nil)
  (denss_one (dens_expr (den_bm PySem.F.plainAttrs_list PySem.F.slot_list_extend PySem.F.type_list_extend mt_extend mtD_extend (den_var 1) (dena_cons (den_comp (own := [("inner", 5)]) ok.calm ok.nd (denI_lst (den_call ⟨c_parts_of⟩ ok.room ok.gd ok.tk rfl (dena_cons (den_var 3) dena_nil))) (blkOk_by (by kernel_rfl)) (fun _ _ _ _ _ => (deng_name 5 ok.nd)) (fun _ _ _ _ _ => ptsYes) (fun _ _ _ _ _ => (den_tup (dena_cons (den_var 5) (dena_cons (den_add (den_var 4) den_int) dena_nil))))) dena_nil))))))))
  (denss_one (dens_ret den_bl)))))
/-! ### show_worth -/
theorem sc_show_worth : FnScope ["worth"] ["worth"] (defScope (top 21)) := ⟨rfl, rfl, rfl, by decide +kernel, rfl, by decide +kernel, by decide +kernel⟩
theorem d_show_worth {P : Program} {w : World} {K : PySem.W.Frag} {mg : Str → Option Value} {base : Heap} {k : Nat} {f : Addr} {fd : FuncData}
  (F : FunD K "show_worth" "show_worth" (defArgs (top 21)) (defBody (top 21)) (defScope (top 21)) [] [] f fd)
  (n_str : mg "str" = none)
  (n_isinstance : mg "isinstance" = none) :
  FnDen P w K mg base (k + 1) f fd ["worth"] (fun ds h => Dn.trim h (run 1 (g_show_worth) ds h)) :=
  FunD.den F sc_show_worth fun cdv A outer s H E ok =>
  (denss_one (dens_ret (den_if (dent_e (den_callB call_isi calD_isi rfl n_isinstance boot_isinstance (dena_cons (den_var 0) (dena_cons (den_ty rfl n_str boot_str) dena_nil)))) (den_add (den_add (den_str "\"" rfl) (den_var 0)) (den_str "\"" rfl)) (den_callTy call_strAll calD_str rfl n_str boot_str (dena_cons (den_var 0) dena_nil)))))
/-! ### show_expression -/
theorem sc_show_expression : FnScope ["expression", "inner", "word", "rest", "part"] ["expression"] (defScope (top 22)) := ⟨rfl, rfl, rfl, by decide +kernel, rfl, by decide +kernel, by decide +kernel⟩
theorem d_show_expression {P : Program} {w : World} {K : PySem.W.Frag} {mg : Str → Option Value} {base : Heap} {k : Nat} {f : Addr} {fd : FuncData} {F_show_worth : Fn} {F_parts_of : Fn} {F_show_expression : Fn}
  (F : FunD K "show_expression" "show_expression" (defArgs (top 22)) (defBody (top 22)) (defScope (top 22)) [] [] f fd)
  (c_show_worth : CallG P w K mg base "show_worth" k 1 F_show_worth [])
  (c_parts_of : CallG P w K mg base "parts_of" k 1 F_parts_of [])
  (c_show_expression : CallG P w K mg base "show_expression" k 1 F_show_expression [])
  (n_str : mg "str" = none)
  (g_SIGNS_words : Glb K w mg "SIGNS_words" k_SIGNS_words) :
  FnDen P w K mg base (k + 1) f fd ["expression"] (fun ds h => Dn.trim h (run 5 (g_show_expression F_show_worth F_parts_of F_show_expression) ds h)) :=
  FunD.den F sc_show_expression fun cdv A outer s H E ok =>
  (denss_cons (dens_set [2, 3] (den_var 0) (deng_star ok.calm (dengs_cons (deng_name 2 ok.nd) (dengs_star (dengs_cons (deng_name 3 ok.nd) dengs_nil)))))
  (denss_cons (dens_if (dent_in ok.units (den_var 2) (den_tup (dena_cons (den_str "number" rfl) (dena_cons (den_str "text" rfl) dena_nil))))
  (denss_one (dens_ret (den_call ⟨c_show_worth⟩ ok.room ok.gd ok.tk rfl (dena_cons (den_item ok.units (den_var 3) den_int (fun _ _ => rfl)) dena_nil))))
  denss_nil)
  (denss_cons (dens_if (dent_eq ok.units (den_var 2) (den_str "box" rfl))
  (denss_one (dens_ret (den_callTy call_strAll calD_str rfl n_str boot_str (dena_cons (den_item ok.units (den_var 3) den_int (fun _ _ => rfl)) dena_nil))))
  denss_nil)
  (denss_cons (dens_setLc 1 (own := [("part", 4)]) ok.calm ok.nd (denI_lst (den_call ⟨c_parts_of⟩ ok.room ok.gd ok.tk rfl (dena_cons (den_var 0) dena_nil))) (blkOk_by (by kernel_rfl)) (fun _ _ _ _ _ => (deng_name 4 ok.nd)) (fun _ _ _ _ _ => ptsYes) (fun _ _ _ _ _ => (den_call ⟨c_show_expression⟩ ok.room ok.gd (takes_blk _ _ _ _ _ _) rfl (dena_cons (den_var 4) dena_nil))))
  (denss_cons (dens_if (dent_in ok.units (den_var 2) (den_glob rfl g_SIGNS_words rfl))
  (denss_one (dens_ret (den_add (den_add (den_add (den_add (den_add (den_add (den_str "(" rfl) (den_item ok.units (den_var 1) den_int (fun _ _ => rfl))) (den_str " " rfl)) (den_var 2)) (den_str " " rfl)) (den_item ok.units (den_var 1) den_int (fun _ _ => rfl))) (den_str ")" rfl))))
  denss_nil)
  (denss_cons (dens_if (dent_eq ok.units (den_var 2) (den_str "cell" rfl))
  (denss_one (dens_ret (den_add (den_add (den_add (den_callTy call_strAll calD_str rfl n_str boot_str (dena_cons (den_item ok.units (den_var 3) den_int (fun _ _ => rfl)) dena_nil)) (den_str "[" rfl)) (den_item ok.units (den_var 1) den_int (fun _ _ => rfl))) (den_str "]" rfl))))
  denss_nil)
  (denss_cons (dens_if (dent_eq ok.units (den_var 2) (den_str "fit" rfl))
  (denss_one (dens_ret (den_add (den_add (den_add (den_callTy call_strAll calD_str rfl n_str boot_str (dena_cons (den_item ok.units (den_var 3) den_int (fun _ _ => rfl)) dena_nil)) (den_str "(" rfl)) (den_item ok.units (den_var 1) den_int (fun _ _ => rfl))) (den_str ")" rfl))))
  denss_nil)
  (denss_one (dens_ret (den_if (dent_ne ok.units (den_var 1) (den_lst dena_nil)) (den_add (den_add (den_add (den_var 2) (den_str "(" rfl)) (den_bm PySem.F.plainAttrs_str PySem.F.slot_str_join PySem.F.type_str_join mt_join mtD_join (den_str ", " rfl) (dena_cons (den_var 1) dena_nil))) (den_str ")" rfl)) (den_var 2)))))))))))
/-! ### refuse_unless -/
theorem sc_refuse_unless : FnScope ["is_right"] ["is_right"] (defScope (top 29)) := ⟨rfl, rfl, rfl, by decide +kernel, rfl, by decide +kernel, by decide +kernel⟩
theorem d_refuse_unless {P : Program} {w : World} {K : PySem.W.Frag} {mg : Str → Option Value} {base : Heap} {k : Nat} {f : Addr} {fd : FuncData}
  (F : FunD K "refuse_unless" "refuse_unless" (defArgs (top 29)) (defBody (top 29)) (defScope (top 29)) [] [] f fd)
   :
  FnDen P w K mg base (k + 1 + 1) f fd ["is_right"] (fun ds h => Dn.trim h (run 1 (g_refuse_unless) ds h)) :=
  FunD.den F sc_refuse_unless fun cdv A outer s H E ok =>
  (denss_one (dens_if (dent_not (dent_e (den_var 0)))
  (denss_one dens_no)
  denss_nil))
/-! ### run_end -/
theorem sc_run_end : FnScope ["text", "at", "signs"] ["text", "at", "signs"] (defScope (top 30)) := ⟨rfl, rfl, rfl, by decide +kernel, rfl, by decide +kernel, by decide +kernel⟩
theorem d_run_end {P : Program} {w : World} {K : PySem.W.Frag} {mg : Str → Option Value} {base : Heap} {k : Nat} {f : Addr} {fd : FuncData}
  (F : FunD K "run_end" "run_end" (defArgs (top 30)) (defBody (top 30)) (defScope (top 30)) [] [] f fd)
  (n_len : mg "len" = none) :
  FnDen P w K mg base (k + 1) f fd ["text", "at", "signs"] (fun ds h => Dn.trim h (run 3 (g_run_end) ds h)) :=
  FunD.den F sc_run_end fun cdv A outer s H E ok =>
  (denss_cons (dens_while lots ok.po (dent_w (denw_and (dent_lt (den_var 1) (den_callB call_lenAll calD_len rfl n_len boot_len (dena_cons (den_var 0) dena_nil))) (denw_and1 (dent_in ok.units (den_item ok.units (den_var 0) (den_var 1) (fun _ _ => rfl)) (den_var 2)))))
  (denss_one (dens_aug 1 ok.nd ip_add opD_addI den_int)))
  (denss_one (dens_ret (den_var 1))))
/-! ### is_plain -/
theorem sc_is_plain : FnScope ["text", "sign"] ["text"] (defScope (top 31)) := ⟨rfl, rfl, rfl, by decide +kernel, rfl, by decide +kernel, by decide +kernel⟩
theorem d_is_plain {P : Program} {w : World} {K : PySem.W.Frag} {mg : Str → Option Value} {base : Heap} {k : Nat} {f : Addr} {fd : FuncData}
  (F : FunD K "is_plain" "is_plain" (defArgs (top 31)) (defBody (top 31)) (defScope (top 31)) [] [] f fd)
  (n_all : mg "all" = none) :
  FnDen P w K mg base (k + 1) f fd ["text"] (fun ds h => Dn.trim h (run 2 (g_is_plain) ds h)) :=
  FunD.den F sc_is_plain fun cdv A outer s H E ok =>
  (denss_one (dens_ret (den_callB (cr_all ok.calm) calD_all rfl n_all boot_all (dena_cons (den_comp (own := [("sign", 1)]) ok.calm ok.nd (denI_str (den_var 0)) (blkOk_by (by kernel_rfl)) (fun _ _ _ _ _ => (deng_name 1 ok.nd)) (fun _ _ _ _ _ => ptsYes) (fun _ _ _ _ _ => (den_and (den_lele (den_str " " rfl) (den_var 1) (den_str "~" rfl)) (den_one (den_ne ok.units (den_var 1) (den_str "\"" rfl)))))) dena_nil))))
/-! ### kind_at -/
theorem sc_kind_at : FnScope ["text", "at", "sign", "end"] ["text", "at"] (defScope (top 32)) := ⟨rfl, rfl, rfl, by decide +kernel, rfl, by decide +kernel, by decide +kernel⟩
theorem d_kind_at {P : Program} {w : World} {K : PySem.W.Frag} {mg : Str → Option Value} {base : Heap} {k : Nat} {f : Addr} {fd : FuncData} {F_run_end : Fn} {F_refuse_unless : Fn} {F_is_plain : Fn}
  (F : FunD K "kind_at" "kind_at" (defArgs (top 32)) (defBody (top 32)) (defScope (top 32)) [] [] f fd)
  (c_run_end : CallG P w K mg base "run_end" k 3 F_run_end [])
  (c_refuse_unless : CallG P w K mg base "refuse_unless" k 1 F_refuse_unless [])
  (c_is_plain : CallG P w K mg base "is_plain" k 1 F_is_plain [])
  (g_LETTERS : Glb K w mg "LETTERS" k_LETTERS)
  (g_FIGURES : Glb K w mg "FIGURES" k_FIGURES)
  (g_SIGNS_tokens : Glb K w mg "SIGNS_tokens" k_SIGNS_tokens) :
  FnDen P w K mg base (k + 1) f fd ["text", "at"] (fun ds h => Dn.trim h (run 4 (g_kind_at F_run_end F_refuse_unless F_is_plain) ds h)) :=
  FunD.den F sc_kind_at fun cdv A outer s H E ok =>
  (denss_cons (dens_set [2] (den_item ok.units (den_var 0) (den_var 1) (fun _ _ => rfl)) (deng_name 2 ok.nd))
  (denss_cons (dens_if (dent_in ok.units (den_var 2) (den_glob rfl g_LETTERS rfl))
  (denss_one (dens_ret (den_tup (dena_cons (den_str "word" rfl) (dena_cons (den_call ⟨c_run_end⟩ ok.room ok.gd ok.tk rfl (dena_cons (den_var 0) (dena_cons (den_var 1) (dena_cons (den_glob rfl g_LETTERS rfl) dena_nil)))) dena_nil)))))
  denss_nil)
  (denss_cons (dens_if (dent_in ok.units (den_var 2) (den_glob rfl g_FIGURES rfl))
  (denss_one (dens_ret (den_tup (dena_cons (den_str "figures" rfl) (dena_cons (den_call ⟨c_run_end⟩ ok.room ok.gd ok.tk rfl (dena_cons (den_var 0) (dena_cons (den_var 1) (dena_cons (den_glob rfl g_FIGURES rfl) dena_nil)))) dena_nil)))))
  denss_nil)
  (denss_cons (dens_if (dent_eq ok.units (den_var 2) (den_str " " rfl))
  (denss_one (dens_ret (den_tup (dena_cons (den_str "blank" rfl) (dena_cons (den_call ⟨c_run_end⟩ ok.room ok.gd ok.tk rfl (dena_cons (den_var 0) (dena_cons (den_var 1) (dena_cons (den_str " " rfl) dena_nil)))) dena_nil)))))
  denss_nil)
  (denss_cons (dens_if (dent_in ok.units (den_var 2) (den_glob rfl g_SIGNS_tokens rfl))
  (denss_one (dens_ret (den_tup (dena_cons (den_str "sign" rfl) (dena_cons (den_add (den_var 1) den_int) dena_nil)))))
  denss_nil)
  (denss_cons (dens_set [3] (den_bm PySem.F.plainAttrs_str PySem.F.slot_str_find PySem.F.type_str_find mt_find3 mtD_find (den_var 0) (dena_cons (den_str "\"" rfl) (dena_cons (den_add (den_var 1) den_int) dena_nil))) (deng_name 3 ok.nd))
  (denss_cons (dens_expr (den_call ⟨c_refuse_unless⟩ ok.room ok.gd ok.tk rfl (dena_cons (den_and (den_eq ok.units (den_var 2) (den_str "\"" rfl)) (den_and (den_gt (den_var 3) den_int) (den_one (den_call ⟨c_is_plain⟩ ok.room ok.gd ok.tk rfl (dena_cons (den_slice (den_var 0) (deno_some (den_add (den_var 1) den_int)) (deno_some (den_var 3))) dena_nil))))) dena_nil)))
  (denss_one (dens_ret (den_tup (dena_cons (den_str "text" rfl) (dena_cons (den_add (den_var 3) den_int) dena_nil))))))))))))
/-! ### is_noted -/
theorem sc_is_noted : FnScope ["found"] ["found"] (defScope (top 33)) := ⟨rfl, rfl, rfl, by decide +kernel, rfl, by decide +kernel, by decide +kernel⟩
theorem d_is_noted {P : Program} {w : World} {K : PySem.W.Frag} {mg : Str → Option Value} {base : Heap} {k : Nat} {f : Addr} {fd : FuncData}
  (F : FunD K "is_noted" "is_noted" (defArgs (top 33)) (defBody (top 33)) (defScope (top 33)) [] [] f fd)
  (n_len : mg "len" = none) :
  FnDen P w K mg base (k + 1) f fd ["found"] (fun ds h => Dn.trim h (run 1 (g_is_noted) ds h)) :=
  FunD.den F sc_is_noted fun cdv A outer s H E ok =>
  (denss_one (dens_ret (den_and (den_eq ok.units (den_callB call_lenAll calD_len rfl n_len boot_len (dena_cons (den_var 0) dena_nil)) den_int) (den_and (den_eq ok.units (den_item ok.units (den_item ok.units (den_var 0) den_int (fun _ _ => rfl)) den_int (fun _ _ => rfl)) (den_str "figures" rfl)) (den_one (den_eq ok.units (den_item ok.units (den_var 0) den_int (fun _ _ => rfl)) (den_tup (dena_cons (den_str "word" rfl) (dena_cons (den_str "note" rfl) dena_nil)))))))))
/-! ### tokens -/
theorem sc_tokens : FnScope ["text", "found", "at", "kind", "end"] ["text"] (defScope (top 34)) := ⟨rfl, rfl, rfl, by decide +kernel, rfl, by decide +kernel, by decide +kernel⟩
theorem d_tokens {P : Program} {w : World} {K : PySem.W.Frag} {mg : Str → Option Value} {base : Heap} {k : Nat} {f : Addr} {fd : FuncData} {F_kind_at : Fn} {F_is_noted : Fn} {F_refuse_unless : Fn} {F_is_plain : Fn}
  (F : FunD K "tokens" "tokens" (defArgs (top 34)) (defBody (top 34)) (defScope (top 34)) [] [] f fd)
  (c_kind_at : CallG P w K mg base "kind_at" k 2 F_kind_at [])
  (c_is_noted : CallG P w K mg base "is_noted" k 1 F_is_noted [])
  (c_refuse_unless : CallG P w K mg base "refuse_unless" k 1 F_refuse_unless [])
  (c_is_plain : CallG P w K mg base "is_plain" k 1 F_is_plain [])
  (n_str : mg "str" = none)
  (n_isinstance : mg "isinstance" = none)
  (n_len : mg "len" = none) :
  FnDen P w K mg base (k + 1 + 1) f fd ["text"] (fun ds h => Dn.trim h (run 5 (g_tokens F_kind_at F_is_noted F_refuse_unless F_is_plain) ds h)) :=
  FunD.den F sc_tokens fun cdv A outer s H E ok =>
  (denss_cons (dens_if (dent_not (dent_e (den_callB call_isi calD_isi rfl n_isinstance boot_isinstance (dena_cons (den_var 0) (dena_cons (den_ty rfl n_str boot_str) dena_nil)))))
  (denss_one dens_no)
  denss_nil)
  (denss_cons (dens_set [1] (den_lstBox dena_nil) (deng_name 1 ok.nd))
  (denss_cons (dens_set [2] den_int (deng_name 2 ok.nd))
  (denss_cons (dens_while lots ok.po (dent_lt (den_var 2) (den_callB call_lenAll calD_len rfl n_len boot_len (dena_cons (den_var 0) dena_nil)))
  (denss_cons (dens_set [3, 4] (den_call ⟨c_kind_at⟩ (ok.le (Nat.le_succ k)) ok.gd ok.tk rfl (dena_cons (den_var 0) (dena_cons (den_var 2) dena_nil))) (deng_tup ok.calm (dengs_cons (deng_name 3 ok.nd) (dengs_cons (deng_name 4 ok.nd) dengs_nil))))
  (denss_cons (dens_if (dent_w (denw_and (dent_eq ok.units (den_var 3) (den_str "blank" rfl)) (denw_and1 (dent_e (den_call ⟨c_is_noted⟩ (ok.le (Nat.le_succ k)) ok.gd ok.tk rfl (dena_cons (den_var 1) dena_nil))))))
  (denss_cons (dens_expr (den_call ⟨c_refuse_unless⟩ (ok.le (Nat.le_succ k)) ok.gd ok.tk rfl (dena_cons (den_call ⟨c_is_plain⟩ (ok.le (Nat.le_succ k)) ok.gd ok.tk rfl (dena_cons (den_slice (den_var 0) (deno_some (den_add (den_var 2) den_int)) deno_none) dena_nil)) dena_nil)))
  (denss_one (dens_ret (den_add (den_frz (den_var 1)) (den_lst (dena_cons (den_tup (dena_cons (den_str "note" rfl) (dena_cons (den_slice (den_var 0) (deno_some (den_add (den_var 2) den_int)) deno_none) dena_nil))) dena_nil))))))
  denss_nil)
  (denss_cons (dens_if (dent_ne ok.units (den_var 3) (den_str "blank" rfl))
  (denss_one (dens_expr (den_bm PySem.F.plainAttrs_list PySem.F.slot_list_append PySem.F.type_list_append mt_append mtD_append (den_var 1) (dena_cons (den_tup (dena_cons (den_var 3) (dena_cons (den_slice (den_var 0) (deno_some (den_var 2)) (deno_some (den_var 4))) dena_nil))) dena_nil))))
  denss_nil)
  (denss_one (dens_set [2] (den_var 4) (deng_name 2 ok.nd)))))))
  (denss_one (dens_ret (den_frz (den_var 1))))))))
/-! ### Reading.__init__ -/
theorem sc_Reading_init__ : FnScope ["self", "some"] ["self", "some"] (defScope (mem 40 0)) := ⟨rfl, rfl, rfl, by decide +kernel, rfl, by decide +kernel, by decide +kernel⟩
theorem d_Reading_init__ {P : Program} {w : World} {K : PySem.W.Frag} {mg : Str → Option Value} {base : Heap} {k : Nat} {f : Addr} {fd : FuncData}
  (F : FunD K "__init__" "Reading.__init__" (defArgs (mem 40 0)) (defBody (mem 40 0)) (defScope (mem 40 0)) [] [] f fd)
  (cf_Reading_rest : ClsF K mg "Reading" "rest")
  (cf_Reading_spot : ClsF K mg "Reading" "spot") :
  FnDen P w K mg base (k + 1) f fd ["self", "some"] (fun ds h => Dn.trim h (run 2 (g_Reading_init__) ds h)) :=
  FunD.den F sc_Reading_init__ fun cdv A outer s H E ok =>
  (denss_cons (dens_fld rfl cf_Reading_rest (den_var 0) (den_var 1))
  (denss_one (dens_fld rfl cf_Reading_spot (den_var 0) den_int)))
/-! ### Reading.look -/
theorem sc_Reading_look : FnScope ["self"] ["self"] (defScope (mem 40 1)) := ⟨rfl, rfl, rfl, by decide +kernel, rfl, by decide +kernel, by decide +kernel⟩
theorem d_Reading_look {P : Program} {w : World} {K : PySem.W.Frag} {mg : Str → Option Value} {base : Heap} {k : Nat} {f : Addr} {fd : FuncData}
  (F : FunD K "look" "Reading.look" (defArgs (mem 40 1)) (defBody (mem 40 1)) (defScope (mem 40 1)) [] [] f fd)
  (n_len : mg "len" = none)
  (cf_Reading_spot : ClsF K mg "Reading" "spot")
  (cf_Reading_rest : ClsF K mg "Reading" "rest") :
  FnDen P w K mg base (k + 1) f fd ["self"] (fun ds h => Dn.trim h (run 1 (g_Reading_look) ds h)) :=
  FunD.den F sc_Reading_look fun cdv A outer s H E ok =>
  (denss_one (dens_ret (den_if (dent_lt (den_fld rfl cf_Reading_spot (den_var 0)) (den_callB call_lenAll calD_len rfl n_len boot_len (dena_cons (den_fld rfl cf_Reading_rest (den_var 0)) dena_nil))) (den_item ok.units (den_fld rfl cf_Reading_rest (den_var 0)) (den_fld rfl cf_Reading_spot (den_var 0)) (fun _ _ => rfl)) (den_tup (dena_cons (den_str "end" rfl) (dena_cons (den_str "" rfl) dena_nil))))))
/-! ### Reading.is_next -/
theorem sc_Reading_is_next : FnScope ["self", "kind", "text"] ["self", "kind", "text"] (defScope (mem 40 2)) := ⟨rfl, rfl, rfl, by decide +kernel, rfl, by decide +kernel, by decide +kernel⟩
theorem d_Reading_is_next {P : Program} {w : World} {K : PySem.W.Frag} {mg : Str → Option Value} {base : Heap} {k : Nat} {f : Addr} {fd : FuncData} {F_Reading_look : Fn}
  (F : FunD K "is_next" "Reading.is_next" (defArgs (mem 40 2)) (defBody (mem 40 2)) (defScope (mem 40 2)) [] [] f fd)
  (c_Reading_look : CallGM P w K mg base "Reading" "look" k 1 F_Reading_look []) :
  FnDen P w K mg base (k + 1) f fd ["self", "kind", "text"] (fun ds h => Dn.trim h (run 3 (g_Reading_is_next F_Reading_look) ds h)) :=
  FunD.den F sc_Reading_is_next fun cdv A outer s H E ok =>
  (denss_one (dens_ret (den_eq ok.units (den_meth0 (pl := _) rfl ⟨c_Reading_look⟩ ok.room ok.gd ok.tk (den_var 0)) (den_tup (dena_cons (den_var 1) (dena_cons (den_var 2) dena_nil))))))
/-! ### Reading.take -/
theorem sc_Reading_take : FnScope ["self", "kind", "found", "text"] ["self", "kind"] (defScope (mem 40 3)) := ⟨rfl, rfl, rfl, by decide +kernel, rfl, by decide +kernel, by decide +kernel⟩
theorem d_Reading_take {P : Program} {w : World} {K : PySem.W.Frag} {mg : Str → Option Value} {base : Heap} {k : Nat} {f : Addr} {fd : FuncData} {F_Reading_look : Fn} {F_refuse_unless : Fn}
  (F : FunD K "take" "Reading.take" (defArgs (mem 40 3)) (defBody (mem 40 3)) (defScope (mem 40 3)) [] [] f fd)
  (c_Reading_look : CallGM P w K mg base "Reading" "look" k 1 F_Reading_look [])
  (c_refuse_unless : CallG P w K mg base "refuse_unless" k 1 F_refuse_unless [])
  (cf_Reading_spot : ClsF K mg "Reading" "spot") :
  FnDen P w K mg base (k + 1) f fd ["self", "kind"] (fun ds h => Dn.trim h (run 4 (g_Reading_take F_Reading_look F_refuse_unless) ds h)) :=
  FunD.den F sc_Reading_take fun cdv A outer s H E ok =>
  (denss_cons (dens_set [2, 3] (den_meth0 (pl := _) rfl ⟨c_Reading_look⟩ ok.room ok.gd ok.tk (den_var 0)) (deng_tup ok.calm (dengs_cons (deng_name 2 ok.nd) (dengs_cons (deng_name 3 ok.nd) dengs_nil))))
  (denss_cons (dens_expr (den_call ⟨c_refuse_unless⟩ ok.room ok.gd ok.tk rfl (dena_cons (den_eq ok.units (den_var 2) (den_var 1)) dena_nil)))
  (denss_cons (dens_fldadd rfl cf_Reading_spot (den_var 0) den_int)
  (denss_one (dens_ret (den_var 3))))))
/-! ### Reading.must -/
theorem sc_Reading_must : FnScope ["self", "kind", "text"] ["self", "kind", "text"] (defScope (mem 40 4)) := ⟨rfl, rfl, rfl, by decide +kernel, rfl, by decide +kernel, by decide +kernel⟩
theorem d_Reading_must {P : Program} {w : World} {K : PySem.W.Frag} {mg : Str → Option Value} {base : Heap} {k : Nat} {f : Addr} {fd : FuncData} {F_refuse_unless : Fn} {F_Reading_take : Fn}
  (F : FunD K "must" "Reading.must" (defArgs (mem 40 4)) (defBody (mem 40 4)) (defScope (mem 40 4)) [] [] f fd)
  (c_refuse_unless : CallG P w K mg base "refuse_unless" k 1 F_refuse_unless [])
  (c_Reading_take : CallGM P w K mg base "Reading" "take" k 2 F_Reading_take []) :
  FnDen P w K mg base (k + 1) f fd ["self", "kind", "text"] (fun ds h => Dn.trim h (run 3 (g_Reading_must F_refuse_unless F_Reading_take) ds h)) :=
  FunD.den F sc_Reading_must fun cdv A outer s H E ok =>
  (denss_one (dens_expr (den_call ⟨c_refuse_unless⟩ ok.room ok.gd ok.tk rfl (dena_cons (den_eq ok.units (den_meth (pl := _) rfl ⟨c_Reading_take⟩ ok.room ok.gd ok.tk (den_var 0) (dena_cons (den_var 1) dena_nil)) (den_var 2)) dena_nil))))
/-! ### Reading.counted -/
theorem sc_Reading_counted : FnScope ["self", "figures"] ["self"] (defScope (mem 40 5)) := ⟨rfl, rfl, rfl, by decide +kernel, rfl, by decide +kernel, by decide +kernel⟩
theorem d_Reading_counted {P : Program} {w : World} {K : PySem.W.Frag} {mg : Str → Option Value} {base : Heap} {k : Nat} {f : Addr} {fd : FuncData} {F_Reading_take : Fn} {F_refuse_unless : Fn}
  (F : FunD K "counted" "Reading.counted" (defArgs (mem 40 5)) (defBody (mem 40 5)) (defScope (mem 40 5)) [] [] f fd)
  (c_Reading_take : CallGM P w K mg base "Reading" "take" k 2 F_Reading_take [])
  (c_refuse_unless : CallG P w K mg base "refuse_unless" k 1 F_refuse_unless [])
  (n_len : mg "len" = none)
  (n_int : mg "int" = none)
  (g_MOST_FIGURES : Glb K w mg "MOST_FIGURES" k_MOST_FIGURES) :
  FnDen P w K mg base (k + 1) f fd ["self"] (fun ds h => Dn.trim h (run 2 (g_Reading_counted F_Reading_take F_refuse_unless) ds h)) :=
  FunD.den F sc_Reading_counted fun cdv A outer s H E ok =>
  (denss_cons (dens_set [1] (den_meth (pl := _) rfl ⟨c_Reading_take⟩ ok.room ok.gd ok.tk (den_var 0) (dena_cons (den_str "figures" rfl) dena_nil)) (deng_name 1 ok.nd))
  (denss_cons (dens_expr (den_call ⟨c_refuse_unless⟩ ok.room ok.gd ok.tk rfl (dena_cons (den_le (den_callB call_lenAll calD_len rfl n_len boot_len (dena_cons (den_var 1) dena_nil)) (den_glob rfl g_MOST_FIGURES rfl)) dena_nil)))
  (denss_one (dens_ret (den_callTy call_intAll calD_int rfl n_int boot_int (dena_cons (den_var 1) dena_nil))))))
/-! ### Reading.worth -/
theorem sc_Reading_worth : FnScope ["self"] ["self"] (defScope (mem 40 6)) := ⟨rfl, rfl, rfl, by decide +kernel, rfl, by decide +kernel, by decide +kernel⟩
theorem d_Reading_worth {P : Program} {w : World} {K : PySem.W.Frag} {mg : Str → Option Value} {base : Heap} {k : Nat} {f : Addr} {fd : FuncData} {F_Reading_look : Fn} {F_Reading_take : Fn} {F_Reading_is_next : Fn} {F_Reading_counted : Fn} {F_Reading_must : Fn}
  (F : FunD K "worth" "Reading.worth" (defArgs (mem 40 6)) (defBody (mem 40 6)) (defScope (mem 40 6)) [] [] f fd)
  (c_Reading_look : CallGM P w K mg base "Reading" "look" k 1 F_Reading_look [])
  (c_Reading_take : CallGM P w K mg base "Reading" "take" k 2 F_Reading_take [])
  (c_Reading_is_next : CallGM P w K mg base "Reading" "is_next" k 3 F_Reading_is_next [])
  (c_Reading_counted : CallGM P w K mg base "Reading" "counted" k 1 F_Reading_counted [])
  (c_Reading_must : CallGM P w K mg base "Reading" "must" k 3 F_Reading_must [])
  (g_DATA_LESS : Glb K w mg "DATA_LESS" k_DATA_LESS) :
  FnDen P w K mg base (k + 1) f fd ["self"] (fun ds h => Dn.trim h (run 1 (g_Reading_worth F_Reading_look F_Reading_take F_Reading_is_next F_Reading_counted F_Reading_must) ds h)) :=
  FunD.den F sc_Reading_worth fun cdv A outer s H E ok =>
  (denss_cons (dens_if (dent_eq ok.units (den_item ok.units (den_meth0 (pl := _) rfl ⟨c_Reading_look⟩ ok.room ok.gd ok.tk (den_var 0)) den_int (fun _ _ => rfl)) (den_str "text" rfl))
  (denss_one (dens_ret (den_slice (den_meth (pl := _) rfl ⟨c_Reading_take⟩ ok.room ok.gd ok.tk (den_var 0) (dena_cons (den_str "text" rfl) dena_nil)) (deno_some den_int) (deno_some (den_neg den_int)))))
  denss_nil)
  (denss_cons (dens_if (dent_not (dent_e (den_meth (pl := _) rfl ⟨c_Reading_is_next⟩ ok.room ok.gd ok.tk (den_var 0) (dena_cons (den_str "sign" rfl) (dena_cons (den_str "-" rfl) dena_nil)))))
  (denss_one (dens_ret (den_meth0 (pl := _) rfl ⟨c_Reading_counted⟩ ok.room ok.gd ok.tk (den_var 0))))
  denss_nil)
  (denss_cons (dens_expr (den_meth (pl := _) rfl ⟨c_Reading_must⟩ ok.room ok.gd ok.tk (den_var 0) (dena_cons (den_str "sign" rfl) (dena_cons (den_str "-" rfl) dena_nil))))
  (denss_one (dens_ret (den_mul (den_glob rfl g_DATA_LESS rfl) (den_meth0 (pl := _) rfl ⟨c_Reading_counted⟩ ok.room ok.gd ok.tk (den_var 0))))))))
/-! ### Reading.within -/
theorem sc_Reading_within : FnScope ["self", "many", "deep", "found", "k"] ["self", "many", "deep"] (defScope (mem 40 7)) := ⟨rfl, rfl, rfl, by decide +kernel, rfl, by decide +kernel, by decide +kernel⟩
theorem d_Reading_within {P : Program} {w : World} {K : PySem.W.Frag} {mg : Str → Option Value} {base : Heap} {k : Nat} {f : Addr} {fd : FuncData} {F_Reading_must : Fn} {F_Reading_expression : Fn}
  (F : FunD K "within" "Reading.within" (defArgs (mem 40 7)) (defBody (mem 40 7)) (defScope (mem 40 7)) [] [] f fd)
  (c_Reading_must : CallGM P w K mg base "Reading" "must" k 3 F_Reading_must [])
  (c_Reading_expression : CallGM P w K mg base "Reading" "expression" k 2 F_Reading_expression [])
  (n_range : mg "range" = none) :
  FnDen P w K mg base (k + 1) f fd ["self", "many", "deep"] (fun ds h => Dn.trim h (run 5 (g_Reading_within F_Reading_must F_Reading_expression) ds h)) :=
  FunD.den F sc_Reading_within fun cdv A outer s H E ok =>
  (denss_cons (dens_expr (den_meth (pl := _) rfl ⟨c_Reading_must⟩ ok.room ok.gd ok.tk (den_var 0) (dena_cons (den_str "sign" rfl) (dena_cons (den_str "(" rfl) dena_nil))))
  (denss_cons (dens_set [3] (den_lstBox dena_nil) (deng_name 3 ok.nd))
  (denss_cons (dens_for (vs := [4]) ok.po ok.calm (denI_range rfl n_range (den_var 1)) (deng_name 4 ok.nd)
  (denss_cons (dens_if (dent_gt (den_var 4) den_int)
  (denss_one (dens_expr (den_meth (pl := _) rfl ⟨c_Reading_must⟩ ok.room ok.gd ok.tk (den_var 0) (dena_cons (den_str "sign" rfl) (dena_cons (den_str "," rfl) dena_nil)))))
  denss_nil)
  (denss_one (dens_expr (den_bm PySem.F.plainAttrs_list PySem.F.slot_list_append PySem.F.type_list_append mt_append mtD_append (den_var 3) (dena_cons (den_meth (pl := _) rfl ⟨c_Reading_expression⟩ ok.room ok.gd ok.tk (den_var 0) (dena_cons (den_var 2) dena_nil)) dena_nil))))))
  (denss_cons (dens_expr (den_meth (pl := _) rfl ⟨c_Reading_must⟩ ok.room ok.gd ok.tk (den_var 0) (dena_cons (den_str "sign" rfl) (dena_cons (den_str ")" rfl) dena_nil))))
  (denss_one (dens_ret (den_frz (den_var 3))))))))
/-! ### Reading.called -/
theorem sc_Reading_called : FnScope ["self", "deep", "word"] ["self", "deep"] (defScope (mem 40 8)) := ⟨rfl, rfl, rfl, by decide +kernel, rfl, by decide +kernel, by decide +kernel⟩
theorem d_Reading_called {P : Program} {w : World} {K : PySem.W.Frag} {mg : Str → Option Value} {base : Heap} {k : Nat} {f : Addr} {fd : FuncData} {F_Reading_take : Fn} {F_Reading_within : Fn} {F_Reading_is_next : Fn} {F_Reading_placed : Fn}
  (F : FunD K "called" "Reading.called" (defArgs (mem 40 8)) (defBody (mem 40 8)) (defScope (mem 40 8)) [] [] f fd)
  (c_Reading_take : CallGM P w K mg base "Reading" "take" k 2 F_Reading_take [])
  (c_Reading_within : CallGM P w K mg base "Reading" "within" k 3 F_Reading_within [])
  (c_Reading_is_next : CallGM P w K mg base "Reading" "is_next" k 3 F_Reading_is_next [])
  (c_Reading_placed : CallGM P w K mg base "Reading" "placed" k 2 F_Reading_placed [])
  (n_tuple : mg "tuple" = none)
  (g_ALONE : Glb K w mg "ALONE" k_ALONE)
  (g_CALLED : Glb K w mg "CALLED" k_CALLED) :
  FnDen P w K mg base (k + 1) f fd ["self", "deep"] (fun ds h => Dn.trim h (run 3 (g_Reading_called F_Reading_take F_Reading_within F_Reading_is_next F_Reading_placed) ds h)) :=
  FunD.den F sc_Reading_called fun cdv A outer s H E ok =>
  (denss_cons (dens_set [2] (den_meth (pl := _) rfl ⟨c_Reading_take⟩ ok.room ok.gd ok.tk (den_var 0) (dena_cons (den_str "word" rfl) dena_nil)) (deng_name 2 ok.nd))
  (denss_cons (dens_if (dent_in ok.units (den_var 2) (den_glob rfl g_ALONE rfl))
  (denss_one (dens_ret (den_tup (dena_cons (den_var 2) dena_nil))))
  denss_nil)
  (denss_cons (dens_if (dent_in ok.units (den_var 2) (den_glob rfl g_CALLED rfl))
  (denss_one (dens_ret (den_callTy call_tuple_of calD_tuple rfl n_tuple boot_tuple (dena_cons (den_add (den_lst (dena_cons (den_var 2) dena_nil)) (den_meth (pl := _) rfl ⟨c_Reading_within⟩ ok.room ok.gd ok.tk (den_var 0) (dena_cons (den_item ok.units (den_glob rfl g_CALLED rfl) (den_var 2) (fun _ _ => rfl)) (dena_cons (den_add (den_var 1) den_int) dena_nil)))) dena_nil))))
  denss_nil)
  (denss_cons (dens_if (dent_e (den_meth (pl := _) rfl ⟨c_Reading_is_next⟩ ok.room ok.gd ok.tk (den_var 0) (dena_cons (den_str "sign" rfl) (dena_cons (den_str "(" rfl) dena_nil))))
  (denss_one (dens_ret (den_tup (dena_cons (den_str "fit" rfl) (dena_cons (den_var 2) (dena_cons (den_item ok.units (den_meth (pl := _) rfl ⟨c_Reading_within⟩ ok.room ok.gd ok.tk (den_var 0) (dena_cons den_int (dena_cons (den_add (den_var 1) den_int) dena_nil))) den_int (fun _ _ => rfl)) dena_nil))))))
  denss_nil)
  (denss_cons (dens_if (dent_not (dent_e (den_meth (pl := _) rfl ⟨c_Reading_is_next⟩ ok.room ok.gd ok.tk (den_var 0) (dena_cons (den_str "sign" rfl) (dena_cons (den_str "[" rfl) dena_nil)))))
  (denss_one (dens_ret (den_tup (dena_cons (den_str "box" rfl) (dena_cons (den_var 2) dena_nil)))))
  denss_nil)
  (denss_one (dens_ret (den_tup (dena_cons (den_str "cell" rfl) (dena_cons (den_var 2) (dena_cons (den_meth (pl := _) rfl ⟨c_Reading_placed⟩ ok.room ok.gd ok.tk (den_var 0) (dena_cons (den_add (den_var 1) den_int) dena_nil)) dena_nil)))))))))))
/-! ### Reading.placed -/
theorem sc_Reading_placed : FnScope ["self", "deep", "found"] ["self", "deep"] (defScope (mem 40 9)) := ⟨rfl, rfl, rfl, by decide +kernel, rfl, by decide +kernel, by decide +kernel⟩
theorem d_Reading_placed {P : Program} {w : World} {K : PySem.W.Frag} {mg : Str → Option Value} {base : Heap} {k : Nat} {f : Addr} {fd : FuncData} {F_Reading_must : Fn} {F_Reading_expression : Fn}
  (F : FunD K "placed" "Reading.placed" (defArgs (mem 40 9)) (defBody (mem 40 9)) (defScope (mem 40 9)) [] [] f fd)
  (c_Reading_must : CallGM P w K mg base "Reading" "must" k 3 F_Reading_must [])
  (c_Reading_expression : CallGM P w K mg base "Reading" "expression" k 2 F_Reading_expression []) :
  FnDen P w K mg base (k + 1) f fd ["self", "deep"] (fun ds h => Dn.trim h (run 3 (g_Reading_placed F_Reading_must F_Reading_expression) ds h)) :=
  FunD.den F sc_Reading_placed fun cdv A outer s H E ok =>
  (denss_cons (dens_expr (den_meth (pl := _) rfl ⟨c_Reading_must⟩ ok.room ok.gd ok.tk (den_var 0) (dena_cons (den_str "sign" rfl) (dena_cons (den_str "[" rfl) dena_nil))))
  (denss_cons (dens_set [2] (den_meth (pl := _) rfl ⟨c_Reading_expression⟩ ok.room ok.gd ok.tk (den_var 0) (dena_cons (den_var 1) dena_nil)) (deng_name 2 ok.nd))
  (denss_cons (dens_expr (den_meth (pl := _) rfl ⟨c_Reading_must⟩ ok.room ok.gd ok.tk (den_var 0) (dena_cons (den_str "sign" rfl) (dena_cons (den_str "]" rfl) dena_nil))))
  (denss_one (dens_ret (den_var 2))))))
/-! ### Reading.of_two -/
theorem sc_Reading_of_two : FnScope ["self", "deep", "one", "other", "kind", "sign"] ["self", "deep"] (defScope (mem 40 10)) := ⟨rfl, rfl, rfl, by decide +kernel, rfl, by decide +kernel, by decide +kernel⟩
theorem d_Reading_of_two {P : Program} {w : World} {K : PySem.W.Frag} {mg : Str → Option Value} {base : Heap} {k : Nat} {f : Addr} {fd : FuncData} {F_Reading_must : Fn} {F_Reading_expression : Fn} {F_Reading_look : Fn} {F_refuse_unless : Fn}
  (F : FunD K "of_two" "Reading.of_two" (defArgs (mem 40 10)) (defBody (mem 40 10)) (defScope (mem 40 10)) [] [] f fd)
  (c_Reading_must : CallGM P w K mg base "Reading" "must" k 3 F_Reading_must [])
  (c_Reading_expression : CallGM P w K mg base "Reading" "expression" k 2 F_Reading_expression [])
  (c_Reading_look : CallGM P w K mg base "Reading" "look" k 1 F_Reading_look [])
  (c_refuse_unless : CallG P w K mg base "refuse_unless" k 1 F_refuse_unless [])
  (g_SIGNS_words : Glb K w mg "SIGNS_words" k_SIGNS_words)
  (cf_Reading_spot : ClsF K mg "Reading" "spot") :
  FnDen P w K mg base (k + 1) f fd ["self", "deep"] (fun ds h => Dn.trim h (run 6 (g_Reading_of_two F_Reading_must F_Reading_expression F_Reading_look F_refuse_unless) ds h)) :=
  FunD.den F sc_Reading_of_two fun cdv A outer s H E ok =>
  (denss_cons (dens_expr (den_meth (pl := _) rfl ⟨c_Reading_must⟩ ok.room ok.gd ok.tk (den_var 0) (dena_cons (den_str "sign" rfl) (dena_cons (den_str "(" rfl) dena_nil))))
  (denss_cons (dens_set [2] (den_meth (pl := _) rfl ⟨c_Reading_expression⟩ ok.room ok.gd ok.tk (den_var 0) (dena_cons (den_var 1) dena_nil)) (deng_name 2 ok.nd))
  (denss_cons (dens_set [4, 5] (den_meth0 (pl := _) rfl ⟨c_Reading_look⟩ ok.room ok.gd ok.tk (den_var 0)) (deng_tup ok.calm (dengs_cons (deng_name 4 ok.nd) (dengs_cons (deng_name 5 ok.nd) dengs_nil))))
  (denss_cons (dens_expr (den_call ⟨c_refuse_unless⟩ ok.room ok.gd ok.tk rfl (dena_cons (den_and (den_in ok.units (den_var 4) (den_tup (dena_cons (den_str "sign" rfl) (dena_cons (den_str "word" rfl) dena_nil)))) (den_one (den_in ok.units (den_var 5) (den_glob rfl g_SIGNS_words rfl)))) dena_nil)))
  (denss_cons (dens_fldadd rfl cf_Reading_spot (den_var 0) den_int)
  (denss_cons (dens_set [3] (den_meth (pl := _) rfl ⟨c_Reading_expression⟩ ok.room ok.gd ok.tk (den_var 0) (dena_cons (den_var 1) dena_nil)) (deng_name 3 ok.nd))
  (denss_cons (dens_expr (den_meth (pl := _) rfl ⟨c_Reading_must⟩ ok.room ok.gd ok.tk (den_var 0) (dena_cons (den_str "sign" rfl) (dena_cons (den_str ")" rfl) dena_nil))))
  (denss_one (dens_ret (den_tup (dena_cons (den_var 5) (dena_cons (den_var 2) (dena_cons (den_var 3) dena_nil)))))))))))))
/-! ### Reading.expression -/
theorem sc_Reading_expression : FnScope ["self", "deep", "kind", "text"] ["self", "deep"] (defScope (mem 40 11)) := ⟨rfl, rfl, rfl, by decide +kernel, rfl, by decide +kernel, by decide +kernel⟩
theorem d_Reading_expression {P : Program} {w : World} {K : PySem.W.Frag} {mg : Str → Option Value} {base : Heap} {k : Nat} {f : Addr} {fd : FuncData} {F_refuse_unless : Fn} {F_Reading_look : Fn} {F_Reading_counted : Fn} {F_Reading_take : Fn} {F_Reading_of_two : Fn} {F_Reading_called : Fn}
  (F : FunD K "expression" "Reading.expression" (defArgs (mem 40 11)) (defBody (mem 40 11)) (defScope (mem 40 11)) [V.int 1] [] f fd)
  (c_refuse_unless : CallG P w K mg base "refuse_unless" k 1 F_refuse_unless [])
  (c_Reading_look : CallGM P w K mg base "Reading" "look" k 1 F_Reading_look [])
  (c_Reading_counted : CallGM P w K mg base "Reading" "counted" k 1 F_Reading_counted [])
  (c_Reading_take : CallGM P w K mg base "Reading" "take" k 2 F_Reading_take [])
  (c_Reading_of_two : CallGM P w K mg base "Reading" "of_two" k 2 F_Reading_of_two [])
  (c_Reading_called : CallGM P w K mg base "Reading" "called" k 2 F_Reading_called [])
  (g_DEEPEST : Glb K w mg "DEEPEST" k_DEEPEST) :
  FnDen P w K mg base (k + 1) f fd ["self", "deep"] (fun ds h => Dn.trim h (run 4 (g_Reading_expression F_refuse_unless F_Reading_look F_Reading_counted F_Reading_take F_Reading_of_two F_Reading_called) ds h)) :=
  FunD.den F sc_Reading_expression fun cdv A outer s H E ok =>
  (denss_cons (dens_expr (den_call ⟨c_refuse_unless⟩ ok.room ok.gd ok.tk rfl (dena_cons (den_le (den_var 1) (den_glob rfl g_DEEPEST rfl)) dena_nil)))
  (denss_cons (dens_set [2, 3] (den_meth0 (pl := _) rfl ⟨c_Reading_look⟩ ok.room ok.gd ok.tk (den_var 0)) (deng_tup ok.calm (dengs_cons (deng_name 2 ok.nd) (dengs_cons (deng_name 3 ok.nd) dengs_nil))))
  (denss_cons (dens_if (dent_eq ok.units (den_var 2) (den_str "figures" rfl))
  (denss_one (dens_ret (den_tup (dena_cons (den_str "number" rfl) (dena_cons (den_meth0 (pl := _) rfl ⟨c_Reading_counted⟩ ok.room ok.gd ok.tk (den_var 0)) dena_nil)))))
  denss_nil)
  (denss_cons (dens_if (dent_eq ok.units (den_var 2) (den_str "text" rfl))
  (denss_one (dens_ret (den_tup (dena_cons (den_str "text" rfl) (dena_cons (den_slice (den_meth (pl := _) rfl ⟨c_Reading_take⟩ ok.room ok.gd ok.tk (den_var 0) (dena_cons (den_str "text" rfl) dena_nil)) (deno_some den_int) (deno_some (den_neg den_int))) dena_nil)))))
  denss_nil)
  (denss_cons (dens_if (dent_eq ok.units (den_var 2) (den_str "sign" rfl))
  (denss_one (dens_ret (den_meth (pl := _) rfl ⟨c_Reading_of_two⟩ ok.room ok.gd ok.tk (den_var 0) (dena_cons (den_add (den_var 1) den_int) dena_nil))))
  denss_nil)
  (denss_one (dens_ret (den_meth (pl := _) rfl ⟨c_Reading_called⟩ ok.room ok.gd ok.tk (den_var 0) (dena_cons (den_var 1) dena_nil)))))))))
/-! ### read_expression -/
theorem sc_read_expression : FnScope ["text", "found"] ["text"] (defScope (top 41)) := ⟨rfl, rfl, rfl, by decide +kernel, rfl, by decide +kernel, by decide +kernel⟩
theorem d_read_expression {P : Program} {w : World} {K : PySem.W.Frag} {mg : Str → Option Value} {base : Heap} {k : Nat} {f : Addr} {fd : FuncData} {F_Reading___init__ : Fn} {F_tokens : Fn} {F_Reading_expression : Fn} {F_refuse_unless : Fn} {F_is_expression : Fn} {F_show_expression : Fn}
  (F : FunD K "read_expression" "read_expression" (defArgs (top 41)) (defBody (top 41)) (defScope (top 41)) [] [] f fd)
  (c_Reading___init__ : CallGN P w K mg base "Reading" k 2 F_Reading___init__ [])
  (c_tokens : CallG P w K mg base "tokens" k 1 F_tokens [])
  (c_Reading_expression_d1 : CallGM P w K mg base "Reading" "expression" k 2 F_Reading_expression [.int 1])
  (c_refuse_unless : CallG P w K mg base "refuse_unless" k 1 F_refuse_unless [])
  (c_is_expression : CallG P w K mg base "is_expression" k 1 F_is_expression [])
  (c_show_expression : CallG P w K mg base "show_expression" k 1 F_show_expression []) :
  FnDen P w K mg base (k + 1 + 1) f fd ["text"] (fun ds h => Dn.trim h (run 2 (g_read_expression F_Reading___init__ F_tokens F_Reading_expression F_refuse_unless F_is_expression F_show_expression) ds h)) :=
  FunD.den F sc_read_expression fun cdv A outer s H E ok =>
  (denss_cons (dens_set [1] (den_meth0 (pl := _) rfl ⟨c_Reading_expression_d1⟩ (ok.le (Nat.le_succ k)) ok.gd ok.tk (den_make ⟨rfl, c_Reading___init__⟩ ok.room ok.gd ok.tk rfl (dena_cons (den_call ⟨c_tokens⟩ (ok.le (Nat.le_succ k)) ok.gd ok.tk rfl (dena_cons (den_var 0) dena_nil)) dena_nil))) (deng_name 1 ok.nd))
  (denss_cons (dens_expr (den_call ⟨c_refuse_unless⟩ (ok.le (Nat.le_succ k)) ok.gd ok.tk rfl (dena_cons (den_and (den_call ⟨c_is_expression⟩ (ok.le (Nat.le_succ k)) ok.gd ok.tk rfl (dena_cons (den_var 1) dena_nil)) (den_one (den_eq ok.units (den_call ⟨c_show_expression⟩ (ok.le (Nat.le_succ k)) ok.gd ok.tk rfl (dena_cons (den_var 1) dena_nil)) (den_var 0)))) dena_nil)))
  (denss_one (dens_ret (den_var 1)))))
/-! ### _law_pen -/
theorem sc_l_pen : FnScope ["_law_script"] ["_law_script"] (defScope (top 43)) := ⟨rfl, rfl, rfl, by decide +kernel, rfl, by decide +kernel, by decide +kernel⟩
theorem d_l_pen {P : Program} {w : World} {K : PySem.W.Frag} {mg : Str → Option Value} {base : Heap} {k : Nat} {f : Addr} {fd : FuncData}
  (F : FunD K "_law_pen" "_law_pen" (defArgs (top 43)) (defBody (top 43)) (defScope (top 43)) [] [] f fd)
  (n_list : mg "list" = none) :
  FnDen P w K mg base (k + 1) f fd ["_law_script"] (fun ds h => Dn.trim h (run 1 (g_l_pen) ds h)) :=
  FunD.den F sc_l_pen fun cdv A outer s H E ok =>
  (denss_one (dens_ret (den_dict (denKV_cons "cells" rfl (den_callTy call_list_of calD_list rfl n_list boot_list (dena_cons (den_slice (den_var 0) deno_none (deno_some den_int)) dena_nil)) (denKV_cons "at" rfl den_int (denKV_cons "left" rfl den_int denKV_nil))) (hn := by decide +kernel))))
/-! ### _law_draw -/
theorem sc_l_draw : FnScope ["_law_pen_here", "_law_many", "_law_at", "_law_cell", "_law_one", "_law_last", "_law_found", "_law_whole"] ["_law_pen_here", "_law_many"] (defScope (top 44)) := ⟨rfl, rfl, rfl, by decide +kernel, rfl, by decide +kernel, by decide +kernel⟩
theorem d_l_draw {P : Program} {w : World} {K : PySem.W.Frag} {mg : Str → Option Value} {base : Heap} {k : Nat} {f : Addr} {fd : FuncData}
  (F : FunD K "_law_draw" "_law_draw" (defArgs (top 44)) (defBody (top 44)) (defScope (top 44)) [] [] f fd)
  (n_len : mg "len" = none)
  (n_abs : mg "abs" = none)
  (n_int : mg "int" = none) :
  FnDen P w K mg base (k + 1) f fd ["_law_pen_here", "_law_many"] (fun ds h => Dn.trim h (run 8 (g_l_draw) ds h)) :=
  FunD.den F sc_l_draw fun cdv A outer s H E ok =>
  (denss_cons (dens_if (dent_gt (den_item ok.units (den_var 0) (den_str "left" rfl) (fun _ _ => rfl)) den_int)
  (denss_cons (dens_set [6] (den_mod (den_item ok.units (den_var 0) (den_str "left" rfl) (fun _ _ => rfl)) (den_var 1)) (deng_name 6 ok.nd))
  (denss_cons (dens_put ok.units1 (den_var 0) (den_str "left" rfl) (den_div (den_item ok.units (den_var 0) (den_str "left" rfl) (fun _ _ => rfl)) (den_var 1)))
  (denss_one (dens_ret (den_var 6)))))
  denss_nil)
  (denss_cons (dens_set [2] (den_item ok.units (den_var 0) (den_str "at" rfl) (fun _ _ => rfl)) (deng_name 2 ok.nd))
  (denss_cons (dens_put ok.units1 (den_var 0) (den_str "at" rfl) (den_add (den_var 2) den_int))
  (denss_cons (dens_set [3] (den_add (den_mul den_int (den_var 2)) den_int) (deng_name 3 ok.nd))
  (denss_cons (dens_if (dent_ne ok.units (den_item ok.units (den_var 0) (den_str "cells" rfl) (fun _ _ => rfl)) (den_lst dena_nil))
  (denss_one (dens_set [3] (den_item ok.units (den_item ok.units (den_var 0) (den_str "cells" rfl) (fun _ _ => rfl)) (den_mod (den_var 2) (den_callB call_lenAll calD_len rfl n_len boot_len (dena_cons (den_item ok.units (den_var 0) (den_str "cells" rfl) (fun _ _ => rfl)) dena_nil))) (fun _ _ => rfl)) (deng_name 3 ok.nd)))
  denss_nil)
  (denss_cons (dens_if (dent_w (denw_and (dent_lt (den_var 2) (den_callB call_lenAll calD_len rfl n_len boot_len (dena_cons (den_item ok.units (den_var 0) (den_str "cells" rfl) (fun _ _ => rfl)) dena_nil))) (denw_and1 (dent_ge (den_callB call_abs calD_abs rfl n_abs boot_abs (dena_cons (den_var 3) dena_nil)) (den_pow den_int den_int)))))
  (denss_cons (dens_set [7] (den_add (den_mul den_int (den_callB call_abs calD_abs rfl n_abs boot_abs (dena_cons (den_var 3) dena_nil))) (den_callTy call_intAll calD_int rfl n_int boot_int (dena_cons (den_lt (den_var 3) den_int) dena_nil))) (deng_name 7 ok.nd))
  (denss_cons (dens_put ok.units1 (den_var 0) (den_str "left" rfl) (den_div (den_var 7) (den_var 1)))
  (denss_one (dens_ret (den_mod (den_var 7) (den_var 1))))))
  denss_nil)
  (denss_cons (dens_set [4] (den_mod (den_pow (den_add (den_add (den_mod (den_var 3) den_int) (den_mul den_int (den_var 2))) den_int) den_int) den_int) (deng_name 4 ok.nd))
  (denss_cons (dens_set [5] (den_mod (den_pow (den_add (den_mul (den_var 4) (den_add (den_var 2) den_int)) (den_mul (den_mul den_int (den_var 2)) (den_var 2))) den_int) den_int) (deng_name 5 ok.nd))
  (denss_one (dens_ret (den_mod (den_div (den_var 5) den_int) (den_var 1))))))))))))
/-! ### _law_text -/
theorem sc_l_text : FnScope ["_law_pen_here", "_law_some"] ["_law_pen_here"] (defScope (top 45)) := ⟨rfl, rfl, rfl, by decide +kernel, rfl, by decide +kernel, by decide +kernel⟩
theorem d_l_text {P : Program} {w : World} {K : PySem.W.Frag} {mg : Str → Option Value} {base : Heap} {k : Nat} {f : Addr} {fd : FuncData} {F_l_draw : Fn}
  (F : FunD K "_law_text" "_law_text" (defArgs (top 45)) (defBody (top 45)) (defScope (top 45)) [] [] f fd)
  (c_l_draw : CallG P w K mg base "_law_draw" k 2 F_l_draw []) :
  FnDen P w K mg base (k + 1) f fd ["_law_pen_here"] (fun ds h => Dn.trim h (run 2 (g_l_text F_l_draw) ds h)) :=
  FunD.den F sc_l_text fun cdv A outer s H E ok =>
  (denss_cons (dens_set [1] (den_lst (dena_cons (den_str "" rfl) (dena_cons (den_str "a" rfl) (dena_cons (den_str "ab" rfl) (dena_cons (den_str "b" rfl) (dena_cons (den_str " " rfl) (dena_cons (den_str "no, yes; (x)" rfl) (dena_cons (den_str "10 end" rfl) (dena_cons (den_str "~" rfl) (dena_cons (den_mul (den_str "x" rfl) den_int) (dena_cons (den_mul (den_str "y" rfl) den_int) dena_nil))))))))))) (deng_name 1 ok.nd))
  (denss_one (dens_ret (den_item ok.units (den_var 1) (den_call ⟨c_l_draw⟩ ok.room ok.gd ok.tk rfl (dena_cons (den_var 0) (dena_cons (den_item ok.units (den_lst (dena_cons den_int (dena_cons den_int dena_nil))) (den_call ⟨c_l_draw⟩ ok.room ok.gd ok.tk rfl (dena_cons (den_var 0) (dena_cons den_int dena_nil))) (fun _ _ => rfl)) dena_nil))) (fun _ _ => rfl)))))
/-! ### _law_number -/
theorem sc_l_number : FnScope ["_law_pen_here", "_law_some"] ["_law_pen_here"] (defScope (top 46)) := ⟨rfl, rfl, rfl, by decide +kernel, rfl, by decide +kernel, by decide +kernel⟩
theorem d_l_number {P : Program} {w : World} {K : PySem.W.Frag} {mg : Str → Option Value} {base : Heap} {k : Nat} {f : Addr} {fd : FuncData} {F_l_draw : Fn}
  (F : FunD K "_law_number" "_law_number" (defArgs (top 46)) (defBody (top 46)) (defScope (top 46)) [] [] f fd)
  (c_l_draw : CallG P w K mg base "_law_draw" k 2 F_l_draw []) :
  FnDen P w K mg base (k + 1) f fd ["_law_pen_here"] (fun ds h => Dn.trim h (run 2 (g_l_number F_l_draw) ds h)) :=
  FunD.den F sc_l_number fun cdv A outer s H E ok =>
  (denss_cons (dens_set [1] (den_lst (dena_cons den_int (dena_cons den_int (dena_cons den_int (dena_cons den_int (dena_cons den_int (dena_cons den_int (dena_cons den_int (dena_cons (den_pow den_int den_int) (dena_cons (den_pow den_int den_int) (dena_cons (den_call ⟨c_l_draw⟩ ok.room ok.gd ok.tk rfl (dena_cons (den_var 0) (dena_cons den_int dena_nil))) dena_nil))))))))))) (deng_name 1 ok.nd))
  (denss_one (dens_ret (den_item ok.units (den_var 1) (den_call ⟨c_l_draw⟩ ok.room ok.gd ok.tk rfl (dena_cons (den_var 0) (dena_cons (den_item ok.units (den_lst (dena_cons den_int (dena_cons den_int dena_nil))) (den_call ⟨c_l_draw⟩ ok.room ok.gd ok.tk rfl (dena_cons (den_var 0) (dena_cons den_int dena_nil))) (fun _ _ => rfl)) dena_nil))) (fun _ _ => rfl)))))
/-! ### _law_expression -/
theorem sc_l_expression : FnScope ["_law_pen_here", "_law_deep", "_law_way", "_law_names", "_law_signs", "_law_k"] ["_law_pen_here", "_law_deep"] (defScope (top 47)) := ⟨rfl, rfl, rfl, by decide +kernel, rfl, by decide +kernel, by decide +kernel⟩
theorem d_l_expression {P : Program} {w : World} {K : PySem.W.Frag} {mg : Str → Option Value} {base : Heap} {k : Nat} {f : Addr} {fd : FuncData} {F_l_draw : Fn} {F_l_expression : Fn} {F_l_number : Fn} {F_l_text : Fn}
  (F : FunD K "_law_expression" "_law_expression" (defArgs (top 47)) (defBody (top 47)) (defScope (top 47)) [] [] f fd)
  (c_l_draw : CallG P w K mg base "_law_draw" k 2 F_l_draw [])
  (c_l_expression : CallG P w K mg base "_law_expression" k 2 F_l_expression [])
  (c_l_number : CallG P w K mg base "_law_number" k 1 F_l_number [])
  (c_l_text : CallG P w K mg base "_law_text" k 1 F_l_text [])
  (n_range : mg "range" = none)
  (n_tuple : mg "tuple" = none)
  (n_min : mg "min" = none) :
  FnDen P w K mg base (k + 1) f fd ["_law_pen_here", "_law_deep"] (fun ds h => Dn.trim h (run 6 (g_l_expression F_l_draw F_l_expression F_l_number F_l_text) ds h)) :=
  FunD.den F sc_l_expression fun cdv A outer s H E ok =>
  (denss_cons (dens_set [2] (den_if (dent_gt (den_var 1) den_int) (den_call ⟨c_l_draw⟩ ok.room ok.gd ok.tk rfl (dena_cons (den_var 0) (dena_cons den_int dena_nil))) (den_add den_int (den_call ⟨c_l_draw⟩ ok.room ok.gd ok.tk rfl (dena_cons (den_var 0) (dena_cons den_int dena_nil))))) (deng_name 2 ok.nd))
  (denss_cons (dens_set [3] (den_lst (dena_cons (den_str "a" rfl) (dena_cons (den_str "b" rfl) (dena_cons (den_str "c" rfl) (dena_cons (den_str "i" rfl) dena_nil))))) (deng_name 3 ok.nd))
  (denss_cons (dens_if (dent_lt (den_var 2) den_int)
  (denss_cons (dens_set [4] (den_lst (dena_cons (den_str "+" rfl) (dena_cons (den_str "-" rfl) (dena_cons (den_str "*" rfl) (dena_cons (den_str "/" rfl) (dena_cons (den_str "rest" rfl) (dena_cons (den_str "<" rfl) (dena_cons (den_str "=" rfl) (dena_cons (den_str ">" rfl) (dena_cons (den_str "and" rfl) (dena_cons (den_str "or" rfl) (dena_cons (den_str "+" rfl) (dena_cons (den_str "-" rfl) (dena_cons (den_str "<" rfl) dena_nil)))))))))))))) (deng_name 4 ok.nd))
  (denss_one (dens_ret (den_tup (dena_cons (den_item ok.units (den_var 4) (den_call ⟨c_l_draw⟩ ok.room ok.gd ok.tk rfl (dena_cons (den_var 0) (dena_cons den_int dena_nil))) (fun _ _ => rfl)) (dena_cons (den_call ⟨c_l_expression⟩ ok.room ok.gd ok.tk rfl (dena_cons (den_var 0) (dena_cons (den_sub (den_var 1) den_int) dena_nil))) (dena_cons (den_call ⟨c_l_expression⟩ ok.room ok.gd ok.tk rfl (dena_cons (den_var 0) (dena_cons (den_sub (den_var 1) den_int) dena_nil))) dena_nil)))))))
  denss_nil)
  (denss_cons (dens_if (dent_eq ok.units (den_var 2) den_int)
  (denss_one (dens_ret (den_tup (dena_cons (den_item ok.units (den_lst (dena_cons (den_str "not" rfl) (dena_cons (den_str "size" rfl) dena_nil))) (den_call ⟨c_l_draw⟩ ok.room ok.gd ok.tk rfl (dena_cons (den_var 0) (dena_cons den_int dena_nil))) (fun _ _ => rfl)) (dena_cons (den_call ⟨c_l_expression⟩ ok.room ok.gd ok.tk rfl (dena_cons (den_var 0) (dena_cons (den_sub (den_var 1) den_int) dena_nil))) dena_nil)))))
  denss_nil)
  (denss_cons (dens_if (dent_eq ok.units (den_var 2) den_int)
  (denss_one (dens_ret (den_tup (dena_cons (den_str "cell" rfl) (dena_cons (den_item ok.units (den_lst (dena_cons (den_str "r" rfl) (dena_cons (den_str "a" rfl) dena_nil))) (den_div (den_call ⟨c_l_draw⟩ ok.room ok.gd ok.tk rfl (dena_cons (den_var 0) (dena_cons den_int dena_nil))) den_int) (fun _ _ => rfl)) (dena_cons (den_call ⟨c_l_expression⟩ ok.room ok.gd ok.tk rfl (dena_cons (den_var 0) (dena_cons (den_sub (den_var 1) den_int) dena_nil))) dena_nil))))))
  denss_nil)
  (denss_cons (dens_if (dent_eq ok.units (den_var 2) den_int)
  (denss_one (dens_ret (den_tup (dena_cons (den_str "fit" rfl) (dena_cons (den_item ok.units (den_lst (dena_cons (den_str "f" rfl) (dena_cons (den_str "g" rfl) dena_nil))) (den_div (den_call ⟨c_l_draw⟩ ok.room ok.gd ok.tk rfl (dena_cons (den_var 0) (dena_cons den_int dena_nil))) den_int) (fun _ _ => rfl)) (dena_cons (den_call ⟨c_l_expression⟩ ok.room ok.gd ok.tk rfl (dena_cons (den_var 0) (dena_cons (den_sub (den_var 1) den_int) dena_nil))) dena_nil))))))
  denss_nil)
  (denss_cons (dens_if (dent_eq ok.units (den_var 2) den_int)
  (denss_one (dens_ret (den_add (den_tup (dena_cons (den_str "part" rfl) dena_nil)) (den_callTy call_tuple_of calD_tuple rfl n_tuple boot_tuple (dena_cons (den_comp (own := [("_law_k", 5)]) ok.calm ok.nd (denI_range rfl n_range den_int) (blkOk_by (by kernel_rfl)) (fun _ _ _ _ _ => (deng_name 5 ok.nd)) (fun _ _ _ _ _ => ptsYes) (fun _ _ _ _ _ => (den_call ⟨c_l_expression⟩ ok.room ok.gd (takes_blk _ _ _ _ _ _) rfl (dena_cons (den_var 0) (dena_cons (den_sub (den_var 1) den_int) dena_nil))))) dena_nil)))))
  denss_nil)
  (denss_cons (dens_if (dent_lt (den_var 2) den_int)
  (denss_one (dens_ret (den_tup (dena_cons (den_str "number" rfl) (dena_cons (den_call ⟨c_l_number⟩ ok.room ok.gd ok.tk rfl (dena_cons (den_var 0) dena_nil)) dena_nil)))))
  denss_nil)
  (denss_cons (dens_if (dent_lt (den_var 2) den_int)
  (denss_one (dens_ret (den_tup (dena_cons (den_str "box" rfl) (dena_cons (den_item ok.units (den_var 3) (den_call ⟨c_l_draw⟩ ok.room ok.gd ok.tk rfl (dena_cons (den_var 0) (dena_cons den_int dena_nil))) (fun _ _ => rfl)) dena_nil)))))
  denss_nil)
  (denss_one (dens_ret (den_item ok.units (den_lst (dena_cons (den_tup (dena_cons (den_str "text" rfl) (dena_cons (den_call ⟨c_l_text⟩ ok.room ok.gd ok.tk rfl (dena_cons (den_var 0) dena_nil)) dena_nil))) (dena_cons (den_tup (dena_cons (den_str "why" rfl) dena_nil)) (dena_cons (den_tup (dena_cons (den_str "where" rfl) dena_nil)) dena_nil)))) (den_callB (call_min2 ok.calm) calD_min rfl n_min boot_min (dena_cons den_int (dena_cons (den_div (den_call ⟨c_l_draw⟩ ok.room ok.gd ok.tk rfl (dena_cons (den_var 0) (dena_cons den_int dena_nil))) den_int) dena_nil))) (fun _ _ => rfl)))))))))))))
/-! ### _law_great -/
theorem sc_l_great : FnScope ["_law_pen_here", "_law_found", "_law_row", "_law_k", "_law_part"] ["_law_pen_here"] (defScope (top 48)) := ⟨rfl, rfl, rfl, by decide +kernel, rfl, by decide +kernel, by decide +kernel⟩
theorem d_l_great {P : Program} {w : World} {K : PySem.W.Frag} {mg : Str → Option Value} {base : Heap} {k : Nat} {f : Addr} {fd : FuncData} {F_l_expression : Fn} {F_l_draw : Fn}
  (F : FunD K "_law_great" "_law_great" (defArgs (top 48)) (defBody (top 48)) (defScope (top 48)) [] [] f fd)
  (c_l_expression : CallG P w K mg base "_law_expression" k 2 F_l_expression [])
  (c_l_draw : CallG P w K mg base "_law_draw" k 2 F_l_draw [])
  (n_range : mg "range" = none) :
  FnDen P w K mg base (k + 1) f fd ["_law_pen_here"] (fun ds h => Dn.trim h (run 5 (g_l_great F_l_expression F_l_draw) ds h)) :=
  FunD.den F sc_l_great fun cdv A outer s H E ok =>
  (denss_cons (dens_set [1] (den_call ⟨c_l_expression⟩ ok.room ok.gd ok.tk rfl (dena_cons (den_var 0) (dena_cons den_int dena_nil))) (deng_name 1 ok.nd))
  (denss_cons (dens_if (dent_eq ok.units (den_call ⟨c_l_draw⟩ ok.room ok.gd ok.tk rfl (dena_cons (den_var 0) (dena_cons den_int dena_nil))) den_int)
  (denss_cons (dens_for (vs := [3]) ok.po ok.calm (denI_range rfl n_range den_int) (deng_name 3 ok.nd)
  (denss_one (dens_set [1] (den_item ok.units (den_lst (dena_cons (den_tup (dena_cons (den_str "not" rfl) (dena_cons (den_var 1) dena_nil))) (dena_cons (den_tup (dena_cons (den_str "cell" rfl) (dena_cons (den_str "r" rfl) (dena_cons (den_var 1) dena_nil)))) (dena_cons (den_tup (dena_cons (den_str "-" rfl) (dena_cons (den_var 1) (dena_cons (den_tup (dena_cons (den_str "why" rfl) dena_nil)) dena_nil)))) dena_nil)))) (den_call ⟨c_l_draw⟩ ok.room ok.gd ok.tk rfl (dena_cons (den_var 0) (dena_cons den_int dena_nil))) (fun _ _ => rfl)) (deng_name 1 ok.nd))))
  (denss_one (dens_ret (den_var 1))))
  denss_nil)
  (denss_cons (dens_set [2] (den_tup (dena_cons (den_str "number" rfl) (dena_cons den_int dena_nil))) (deng_name 2 ok.nd))
  (denss_cons (dens_for (vs := [3]) ok.po ok.calm (denI_range rfl n_range den_int) (deng_name 3 ok.nd)
  (denss_one (dens_set [2] (den_tup (dena_cons (den_str "+" rfl) (dena_cons (den_var 2) (dena_cons (den_var 2) dena_nil)))) (deng_name 2 ok.nd))))
  (denss_cons (dens_set [4] (den_tup (dena_cons (den_str "part" rfl) (dena_cons (den_var 2) (dena_cons (den_tup (dena_cons (den_str "box" rfl) (dena_cons (den_str "set" rfl) dena_nil))) (dena_cons (den_tup (dena_cons (den_str "*" rfl) (dena_cons (den_tup (dena_cons (den_str "fit" rfl) (dena_cons (den_str "say" rfl) (dena_cons (den_var 1) dena_nil)))) (dena_cons (den_tup (dena_cons (den_str "box" rfl) (dena_cons (den_str "note" rfl) dena_nil))) dena_nil)))) dena_nil))))) (deng_name 4 ok.nd))
  (denss_one (dens_ret (den_tup (dena_cons (den_str "not" rfl) (dena_cons (den_tup (dena_cons (den_str "+" rfl) (dena_cons (den_tup (dena_cons (den_str "box" rfl) (dena_cons (den_str "a" rfl) dena_nil))) (dena_cons (den_var 4) dena_nil)))) dena_nil))))))))))
/-! ### _law_shown -/
theorem sc_l_shown : FnScope ["_law_e", "_law_word", "_law_inner", "_law_one"] ["_law_e"] (defScope (top 49)) := ⟨rfl, rfl, rfl, by decide +kernel, rfl, by decide +kernel, by decide +kernel⟩
theorem d_l_shown {P : Program} {w : World} {K : PySem.W.Frag} {mg : Str → Option Value} {base : Heap} {k : Nat} {f : Addr} {fd : FuncData} {F_l_shown : Fn}
  (F : FunD K "_law_shown" "_law_shown" (defArgs (top 49)) (defBody (top 49)) (defScope (top 49)) [] [] f fd)
  (c_l_shown : CallG P w K mg base "_law_shown" k 1 F_l_shown [])
  (n_str : mg "str" = none)
  (n_int : mg "int" = none) :
  FnDen P w K mg base (k + 1) f fd ["_law_e"] (fun ds h => Dn.trim h (run 4 (g_l_shown F_l_shown) ds h)) :=
  FunD.den F sc_l_shown fun cdv A outer s H E ok =>
  (denss_cons (dens_set [1] (den_item ok.units (den_var 0) den_int (fun _ _ => rfl)) (deng_name 1 ok.nd))
  (denss_cons (dens_if (dent_eq ok.units (den_var 1) (den_str "number" rfl))
  (denss_one (dens_ret (den_callTy call_strAll calD_str rfl n_str boot_str (dena_cons (den_item ok.units (den_var 0) den_int (fun _ _ => rfl)) dena_nil))))
  denss_nil)
  (denss_cons (dens_if (dent_eq ok.units (den_var 1) (den_str "text" rfl))
  (denss_one (dens_ret (den_add (den_add (den_str "\"" rfl) (den_item ok.units (den_var 0) den_int (fun _ _ => rfl))) (den_str "\"" rfl))))
  denss_nil)
  (denss_cons (dens_if (dent_eq ok.units (den_var 1) (den_str "box" rfl))
  (denss_one (dens_ret (den_item ok.units (den_var 0) den_int (fun _ _ => rfl))))
  denss_nil)
  (denss_cons (dens_if (dent_in ok.units (den_var 1) (den_tup (dena_cons (den_str "cell" rfl) (dena_cons (den_str "fit" rfl) dena_nil))))
  (denss_cons (dens_set [2] (den_call ⟨c_l_shown⟩ ok.room ok.gd ok.tk rfl (dena_cons (den_item ok.units (den_var 0) den_int (fun _ _ => rfl)) dena_nil)) (deng_name 2 ok.nd))
  (denss_one (dens_ret (den_add (den_item ok.units (den_var 0) den_int (fun _ _ => rfl)) (den_item ok.units (den_lst (dena_cons (den_add (den_add (den_str "[" rfl) (den_var 2)) (den_str "]" rfl)) (dena_cons (den_add (den_add (den_str "(" rfl) (den_var 2)) (den_str ")" rfl)) dena_nil))) (den_callTy call_intAll calD_int rfl n_int boot_int (dena_cons (den_eq ok.units (den_var 1) (den_str "fit" rfl)) dena_nil)) (fun _ _ => rfl))))))
  denss_nil)
  (denss_cons (dens_setLc 2 (own := [("_law_one", 3)]) ok.calm ok.nd (denI_tup (den_slice (den_var 0) (deno_some den_int) deno_none)) (blkOk_by (by kernel_rfl)) (fun _ _ _ _ _ => (deng_name 3 ok.nd)) (fun _ _ _ _ _ => ptsYes) (fun _ _ _ _ _ => (den_call ⟨c_l_shown⟩ ok.room ok.gd (takes_blk _ _ _ _ _ _) rfl (dena_cons (den_var 3) dena_nil))))
  (denss_cons (dens_if (dent_in ok.units (den_var 1) (den_tup (dena_cons (den_str "not" rfl) (dena_cons (den_str "size" rfl) (dena_cons (den_str "part" rfl) dena_nil)))))
  (denss_one (dens_ret (den_add (den_add (den_add (den_var 1) (den_str "(" rfl)) (den_bm PySem.F.plainAttrs_str PySem.F.slot_str_join PySem.F.type_str_join mt_join mtD_join (den_str ", " rfl) (dena_cons (den_var 2) dena_nil))) (den_str ")" rfl))))
  denss_nil)
  (denss_cons (dens_if (dent_eq ok.units (den_var 2) (den_lst dena_nil))
  (denss_one (dens_ret (den_var 1)))
  denss_nil)
  (denss_one (dens_ret (den_add (den_add (den_add (den_add (den_add (den_add (den_str "(" rfl) (den_item ok.units (den_var 2) den_int (fun _ _ => rfl))) (den_str " " rfl)) (den_var 1)) (den_str " " rfl)) (den_item ok.units (den_var 2) den_int (fun _ _ => rfl))) (den_str ")" rfl))))))))))))
/-! ### law -/
theorem sc_law : FnScope ["_law_script", "_law_pen_here", "_law_some", "_law_k", "_law_e", "_law_due", "_law_kept", "_law_text_here", "_law_again"] ["_law_script"] (defScope (top 50)) := ⟨rfl, rfl, rfl, by decide +kernel, rfl, by decide +kernel, by decide +kernel⟩
theorem d_law {P : Program} {w : World} {K : PySem.W.Frag} {mg : Str → Option Value} {base : Heap} {k : Nat} {f : Addr} {fd : FuncData} {F_l_pen : Fn} {F_l_expression : Fn} {F_l_draw : Fn} {F_l_great : Fn} {F_is_expression : Fn} {F_l_shown : Fn} {F_show_expression : Fn} {F_read_expression : Fn}
  (F : FunD K "law" "law" (defArgs (top 50)) (defBody (top 50)) (defScope (top 50)) [] [] f fd)
  (c_l_pen : CallG P w K mg base "_law_pen" k 1 F_l_pen [])
  (c_l_expression : CallG P w K mg base "_law_expression" k 2 F_l_expression [])
  (c_l_draw : CallG P w K mg base "_law_draw" k 2 F_l_draw [])
  (c_l_great : CallG P w K mg base "_law_great" k 1 F_l_great [])
  (c_is_expression : CallG P w K mg base "is_expression" k 1 F_is_expression [])
  (c_l_shown : CallG P w K mg base "_law_shown" k 1 F_l_shown [])
  (c_show_expression : CallG P w K mg base "show_expression" k 1 F_show_expression [])
  (c_read_expression : CallG P w K mg base "read_expression" k 1 F_read_expression [])
  (n_range : mg "range" = none)
  (n_len : mg "len" = none)
  (n_repr : mg "repr" = none) :
  FnDen P w K mg base (k + 1) f fd ["_law_script"] (fun ds h => Dn.trim h (run 9 (g_law F_l_pen F_l_expression F_l_draw F_l_great F_is_expression F_l_shown F_show_expression F_read_expression) ds h)) :=
  FunD.den F sc_law fun cdv A outer s H E ok =>
  (denss_cons (dens_set [1] (den_call ⟨c_l_pen⟩ ok.room ok.gd ok.tk rfl (dena_cons (den_var 0) dena_nil)) (deng_name 1 ok.nd))
  (denss_cons (dens_set [2] (den_lst (dena_cons (den_tup (dena_cons (den_str "fit" rfl) (dena_cons (den_str "set" rfl) (dena_cons (den_tup (dena_cons (den_str "cell" rfl) (dena_cons (den_str "say" rfl) (dena_cons (den_tup (dena_cons (den_str "box" rfl) (dena_cons (den_str "note" rfl) dena_nil))) dena_nil)))) dena_nil)))) (dena_cons (den_tup (dena_cons (den_str "text" rfl) (dena_cons (den_str "" rfl) dena_nil))) (dena_cons (den_tup (dena_cons (den_str "rest" rfl) (dena_cons (den_tup (dena_cons (den_str "why" rfl) dena_nil)) (dena_cons (den_tup (dena_cons (den_str "where" rfl) dena_nil)) dena_nil)))) dena_nil)))) (deng_name 2 ok.nd))
  (denss_cons (dens_set [2] (den_addBox (den_var 2) (den_lst (dena_cons (den_tup (dena_cons (den_str "number" rfl) (dena_cons (den_pow den_int den_int) dena_nil))) (dena_cons (den_tup (dena_cons (den_str "text" rfl) (dena_cons (den_str " (a) " rfl) dena_nil))) (dena_cons (den_tup (dena_cons (den_str "size" rfl) (dena_cons (den_tup (dena_cons (den_str "text" rfl) (dena_cons (den_str "why" rfl) dena_nil))) dena_nil))) dena_nil))))) (deng_name 2 ok.nd))
  (denss_cons (dens_for (vs := [3]) ok.po ok.calm (denI_range rfl n_range den_int) (deng_name 3 ok.nd)
  (denss_one (dens_expr (den_bm PySem.F.plainAttrs_list PySem.F.slot_list_append PySem.F.type_list_append mt_append mtD_append (den_var 2) (dena_cons (den_call ⟨c_l_expression⟩ ok.room ok.gd ok.tk rfl (dena_cons (den_var 1) (dena_cons (den_add den_int (den_call ⟨c_l_draw⟩ ok.room ok.gd ok.tk rfl (dena_cons (den_var 1) (dena_cons den_int dena_nil)))) dena_nil))) dena_nil)))))
  (denss_cons (dens_set [2] (den_add (den_frz (den_var 2)) (den_comp (own := [("_law_k", 3)]) ok.calm ok.nd (denI_range rfl n_range den_int) (blkOk_by (by kernel_rfl)) (fun _ _ _ _ _ => (deng_name 3 ok.nd)) (fun _ _ _ _ _ => ptsYes) (fun _ _ _ _ _ => (den_call ⟨c_l_great⟩ ok.room ok.gd (takes_blk _ _ _ _ _ _) rfl (dena_cons (den_var 1) dena_nil))))) (deng_name 2 ok.nd))
  (denss_cons (dens_setLc 2 (own := [("_law_e", 4)]) ok.calm ok.nd (denI_lst (den_var 2)) (blkOk_by (by kernel_rfl)) (fun _ _ _ _ _ => (deng_name 4 ok.nd)) (fun _ _ _ _ _ => pts_one (dent_e (den_call ⟨c_is_expression⟩ ok.room ok.gd (takes_blk _ _ _ _ _ _) rfl (dena_cons (den_var 4) dena_nil)))) (fun _ _ _ _ _ => (den_var 4)))
  (denss_cons (dens_if (dent_lt (den_callB call_lenAll calD_len rfl n_len boot_len (dena_cons (den_var 2) dena_nil)) den_int)
  (denss_one (dens_ret den_bl))
  denss_nil)
  (denss_cons (dens_for (vs := [4]) ok.po ok.calm (denI_lst (den_add (den_var 2) (den_slice (den_var 2) deno_none (deno_some den_int)))) (deng_name 4 ok.nd)
  (denss_cons (dens_set [6] (den_callB (call_reprD ok.units60 ok.gd) calD_repr rfl n_repr boot_repr (dena_cons (den_var 4) dena_nil)) (deng_name 6 ok.nd))
  (denss_cons (dens_set [7] (den_call ⟨c_l_shown⟩ ok.room ok.gd ok.tk rfl (dena_cons (den_var 4) dena_nil)) (deng_name 7 ok.nd))
  (denss_one (dens_for (vs := [8]) ok.po ok.calm (denI_range rfl n_range den_int) (deng_name 8 ok.nd)
  (denss_one (dens_if (dent_w (denw_or (dent_ne ok.units (den_call ⟨c_show_expression⟩ ok.room ok.gd ok.tk rfl (dena_cons (den_var 4) dena_nil)) (den_var 7)) (denw_or (dent_ne ok.units (den_callB (call_reprD ok.units60 ok.gd) calD_repr rfl n_repr boot_repr (dena_cons (den_call ⟨c_read_expression⟩ ok.room ok.gd ok.tk rfl (dena_cons (den_var 7) dena_nil)) dena_nil)) (den_var 6)) (denw_or1 (dent_ne ok.units (den_callB (call_reprD ok.units60 ok.gd) calD_repr rfl n_repr boot_repr (dena_cons (den_var 4) dena_nil)) (den_var 6))))))
  (denss_one (dens_ret den_bl))
  denss_nil)))))))
  (denss_cons (dens_set [5] (den_tup (dena_cons (den_str "rest" rfl) (dena_cons (den_tup (dena_cons (den_str "+" rfl) (dena_cons (den_tup (dena_cons (den_str "box" rfl) (dena_cons (den_str "a" rfl) dena_nil))) (dena_cons (den_tup (dena_cons (den_str "number" rfl) (dena_cons den_int dena_nil))) dena_nil)))) (dena_cons (den_tup (dena_cons (den_str "size" rfl) (dena_cons (den_tup (dena_cons (den_str "text" rfl) (dena_cons (den_str "x" rfl) dena_nil))) dena_nil))) dena_nil)))) (deng_name 5 ok.nd))
  (denss_one (dens_ret (den_eq ok.units (den_call ⟨c_read_expression⟩ ok.room ok.gd ok.tk rfl (dena_cons (den_str "((a + 1) rest size(\"x\"))" rfl) dena_nil)) (den_var 5)))))))))))))
end Dk75

/-! text D75H -/
set_option maxHeartbeats 1000000
set_option Elab.async false
set_option linter.all false
set_option maxRecDepth 100000
set_option maxHeartbeats 0
/-! k75: the head (printed by genhd.py). -/
namespace Dk75
open PySem PySem.W PySem.Calls PyProof.Rows L2
def fn : List He.DefD := [⟨("is_name", none), "is_name", "is_name", defArgs (top 12), defBody (top 12), defScope (top 12), [], []⟩,
  ⟨("is_whole", none), "is_whole", "is_whole", defArgs (top 13), defBody (top 13), defScope (top 13), [], []⟩,
  ⟨("is_text", none), "is_text", "is_text", defArgs (top 14), defBody (top 14), defScope (top 14), [], []⟩,
  ⟨("is_tuple", none), "is_tuple", "is_tuple", defArgs (top 15), defBody (top 15), defScope (top 15), [], []⟩,
  ⟨("is_worded", none), "is_worded", "is_worded", defArgs (top 16), defBody (top 16), defScope (top 16), [], []⟩,
  ⟨("parts_of", none), "parts_of", "parts_of", defArgs (top 17), defBody (top 17), defScope (top 17), [], []⟩,
  ⟨("has_form", none), "has_form", "has_form", defArgs (top 18), defBody (top 18), defScope (top 18), [], []⟩,
  ⟨("is_expression", none), "is_expression", "is_expression", defArgs (top 19), defBody (top 19), defScope (top 19), [], []⟩,
  ⟨("show_worth", none), "show_worth", "show_worth", defArgs (top 21), defBody (top 21), defScope (top 21), [], []⟩,
  ⟨("show_expression", none), "show_expression", "show_expression", defArgs (top 22), defBody (top 22), defScope (top 22), [], []⟩,
  ⟨("refuse_unless", none), "refuse_unless", "refuse_unless", defArgs (top 29), defBody (top 29), defScope (top 29), [], []⟩,
  ⟨("run_end", none), "run_end", "run_end", defArgs (top 30), defBody (top 30), defScope (top 30), [], []⟩,
  ⟨("is_plain", none), "is_plain", "is_plain", defArgs (top 31), defBody (top 31), defScope (top 31), [], []⟩,
  ⟨("kind_at", none), "kind_at", "kind_at", defArgs (top 32), defBody (top 32), defScope (top 32), [], []⟩,
  ⟨("is_noted", none), "is_noted", "is_noted", defArgs (top 33), defBody (top 33), defScope (top 33), [], []⟩,
  ⟨("tokens", none), "tokens", "tokens", defArgs (top 34), defBody (top 34), defScope (top 34), [], []⟩,
  ⟨("read_expression", none), "read_expression", "read_expression", defArgs (top 41), defBody (top 41), defScope (top 41), [], []⟩,
  ⟨("_law_pen", none), "_law_pen", "_law_pen", defArgs (top 43), defBody (top 43), defScope (top 43), [], []⟩,
  ⟨("_law_draw", none), "_law_draw", "_law_draw", defArgs (top 44), defBody (top 44), defScope (top 44), [], []⟩,
  ⟨("_law_text", none), "_law_text", "_law_text", defArgs (top 45), defBody (top 45), defScope (top 45), [], []⟩,
  ⟨("_law_number", none), "_law_number", "_law_number", defArgs (top 46), defBody (top 46), defScope (top 46), [], []⟩,
  ⟨("_law_expression", none), "_law_expression", "_law_expression", defArgs (top 47), defBody (top 47), defScope (top 47), [], []⟩,
  ⟨("_law_great", none), "_law_great", "_law_great", defArgs (top 48), defBody (top 48), defScope (top 48), [], []⟩,
  ⟨("_law_shown", none), "_law_shown", "_law_shown", defArgs (top 49), defBody (top 49), defScope (top 49), [], []⟩,
  ⟨("law", none), "law", "law", defArgs (top 50), defBody (top 50), defScope (top 50), [], []⟩,
  ⟨("Reading", some "__init__"), "__init__", "Reading.__init__", defArgs (mem 40 0), defBody (mem 40 0), defScope (mem 40 0), [], []⟩,
  ⟨("Reading", some "look"), "look", "Reading.look", defArgs (mem 40 1), defBody (mem 40 1), defScope (mem 40 1), [], []⟩,
  ⟨("Reading", some "is_next"), "is_next", "Reading.is_next", defArgs (mem 40 2), defBody (mem 40 2), defScope (mem 40 2), [], []⟩,
  ⟨("Reading", some "take"), "take", "Reading.take", defArgs (mem 40 3), defBody (mem 40 3), defScope (mem 40 3), [], []⟩,
  ⟨("Reading", some "must"), "must", "Reading.must", defArgs (mem 40 4), defBody (mem 40 4), defScope (mem 40 4), [], []⟩,
  ⟨("Reading", some "counted"), "counted", "Reading.counted", defArgs (mem 40 5), defBody (mem 40 5), defScope (mem 40 5), [], []⟩,
  ⟨("Reading", some "worth"), "worth", "Reading.worth", defArgs (mem 40 6), defBody (mem 40 6), defScope (mem 40 6), [], []⟩,
  ⟨("Reading", some "within"), "within", "Reading.within", defArgs (mem 40 7), defBody (mem 40 7), defScope (mem 40 7), [], []⟩,
  ⟨("Reading", some "called"), "called", "Reading.called", defArgs (mem 40 8), defBody (mem 40 8), defScope (mem 40 8), [], []⟩,
  ⟨("Reading", some "placed"), "placed", "Reading.placed", defArgs (mem 40 9), defBody (mem 40 9), defScope (mem 40 9), [], []⟩,
  ⟨("Reading", some "of_two"), "of_two", "Reading.of_two", defArgs (mem 40 10), defBody (mem 40 10), defScope (mem 40 10), [], []⟩,
  ⟨("Reading", some "expression"), "expression", "Reading.expression", defArgs (mem 40 11), defBody (mem 40 11), defScope (mem 40 11), [.int 1], []⟩]
def fa : List He.Fa := [.glo "is_name",
  .glo "is_whole",
  .glo "is_text",
  .glo "is_tuple",
  .glo "is_worded",
  .glo "parts_of",
  .glo "has_form",
  .glo "is_expression",
  .glo "show_worth",
  .glo "show_expression",
  .glo "refuse_unless",
  .glo "run_end",
  .glo "is_plain",
  .glo "kind_at",
  .glo "is_noted",
  .glo "tokens",
  .glo "read_expression",
  .glo "_law_pen",
  .glo "_law_draw",
  .glo "_law_text",
  .glo "_law_number",
  .glo "_law_expression",
  .glo "_law_great",
  .glo "_law_shown",
  .glo "law",
  .glo "Reading",
  .cls "Reading",
  .mkr "Reading",
  .noat "Reading" "rest",
  .noat "Reading" "spot",
  .meth "Reading" "look",
  .meth "Reading" "is_next",
  .meth "Reading" "take",
  .meth "Reading" "must",
  .meth "Reading" "counted",
  .meth "Reading" "worth",
  .meth "Reading" "within",
  .meth "Reading" "called",
  .meth "Reading" "placed",
  .meth "Reading" "of_two",
  .meth "Reading" "expression",
  .str "LETTERS" "abcdefghijklmnopqrstuvwxyz",
  .glo "BARRED",
  .int "LONGEST_NAME" (8),
  .int "GREATEST" (1000000000000),
  .int "LONGEST_TEXT" (100),
  .int "LAST_NUMBER" (9999),
  .int "DEEPEST" (8),
  .int "MOST_EXPRESSIONS" (40),
  .glo "SIGNS_words",
  .glo "WITHIN",
  .str "FIGURES" "0123456789",
  .str "SIGNS_tokens" "()[],;=+-*/<>",
  .int "MOST_FIGURES" (13),
  .glo "CALLED",
  .glo "ALONE",
  .int "DATA_LESS" (-1),
  .free "len",
  .free "all",
  .free "isinstance",
  .free "abs",
  .free "min",
  .free "repr",
  .free "range",
  .free "str",
  .free "int",
  .free "bool",
  .free "tuple",
  .free "list"]
def v_BARRED : List He.Dv := [.str "and", .str "or", .str "not", .str "rest", .str "size", .str "part", .str "why", .str "where", .str "to", .str "by", .str "go", .str "call"]
def v_SIGNS_words : List He.Dv := [.str "+", .str "-", .str "*", .str "/", .str "rest", .str "<", .str "=", .str ">", .str "and", .str "or"]
def v_ALONE : List He.Dv := [.str "why", .str "where"]
def v_WITHIN : List (String × He.Dv) := [("cell", .int (1)), ("fit", .int (1)), ("not", .int (1)), ("size", .int (1)), ("part", .int (3)), ("why", .int (0)), ("where", .int (0))]
def v_CALLED : List (String × He.Dv) := [("not", .int (1)), ("size", .int (1)), ("part", .int (3))]
def ts : List He.Tab := [(fun K => He.ga K "WITHIN", v_WITHIN.map fun z => Str.ofString z.1), (fun K => He.ga K "CALLED", v_CALLED.map fun z => Str.ofString z.1)]
def ex (K : PySem.W.Frag) : Bool := (He.tupB K "BARRED" v_BARRED && (He.tupB K "SIGNS_words" v_SIGNS_words && (He.tupB K "ALONE" v_ALONE && (He.valsB K (He.ga K "WITHIN") (Dn.kvOf v_WITHIN) && He.valsB K (He.ga K "CALLED") (Dn.kvOf v_CALLED)))))
def names0 : List PySem.Str := ["_wall", "LETTERS", "BARRED", "LONGEST_NAME", "GREATEST", "LONGEST_TEXT", "LAST_NUMBER", "DEEPEST", "MOST_EXPRESSIONS", "SIGNS_words", "WITHIN", "is_name", "is_whole", "is_text", "is_tuple", "is_worded", "parts_of", "has_form", "is_expression", "show_worth", "show_expression", "LineError", "NoText", "FIGURES"]
def names1 : List PySem.Str := ["SIGNS_tokens", "refuse_unless", "run_end", "is_plain", "kind_at", "is_noted", "tokens", "MOST_FIGURES", "CALLED", "ALONE", "DATA_LESS", "Reading", "read_expression", "_law_pen", "_law_draw", "_law_text", "_law_number", "_law_expression", "_law_great", "_law_shown"]
def names : List PySem.Str := names0 ++ names1
abbrev R : PySem.W.OpenRow := PySem.W.OpenLaw.row PySem.Challenge.rw_numberedlines_k75_expressions_written_an
abbrev hk : PySem.W.Hook := He.hookX 7 fa fn ts [] ex
def ob (s : PySem.W.SharedT) : He.AlX := He.obsX 7 fa fn ts [] ex (HandSHeadRun.getT s)
theorem ob_eq (s : PySem.W.SharedT) : ob s = hk.obs s.abs := He.obsX_eq (HandSHeadRun.getT_eq s)
theorem runF (w : World) : HandSHeadRun.RunEq R (PySem.W.view R.prog [50]) hk ob 8000 names (w.withFollow "special-get-raises" false) := by
  intro os
  kernel_rfl
theorem runT (w : World) : HandSHeadRun.RunEq R (PySem.W.view R.prog [50]) hk ob 8000 names (w.withFollow "special-get-raises" true) := by
  intro os
  kernel_rfl
theorem run (w : World) : HandSHeadRun.RunEq R (PySem.W.view R.prog [50]) hk ob 8000 names w :=
  PySem.W.byRow2 "special-get-raises" (P := fun w => HandSHeadRun.RunEq R (PySem.W.view R.prog [50]) hk ob 8000 names w) runF runT w
end Dk75

/-! text D75F -/
set_option maxHeartbeats 1000000
set_option Elab.async false
set_option linter.all false
set_option maxRecDepth 100000
set_option autoImplicit false
set_option maxHeartbeats 8000000
/-! k75: the calls by the head's facts (printed by genft.py). -/
namespace Dk75
open PySem PySem.Spec PyProof.Rows L2 Dn
section
variable {P : Program} {w : World} {K : PySem.W.Frag} {mg : Str → Option Value} {base h : Heap}
theorem ex_parts (c : ex K = true) : He.tupB K "BARRED" v_BARRED = true ∧ He.tupB K "SIGNS_words" v_SIGNS_words = true ∧ He.tupB K "ALONE" v_ALONE = true ∧ He.valsB K (He.ga K "WITHIN") (Dn.kvOf v_WITHIN) = true ∧ He.valsB K (He.ga K "CALLED") (Dn.kvOf v_CALLED) = true := by
  unfold ex at c
  simp only [Bool.and_eq_true] at c
  exact c
theorem g_LAST_NUMBER (X : K.In h) (G : h.Ns mainGlobals mg) (c : He.SaysX fa fn ts [] ex w h K) : Glb K w mg "LAST_NUMBER" k_LAST_NUMBER := glb_int X G (c.t.d.fact 46 (f := .int "LAST_NUMBER" (9999)) rfl)
theorem g_LONGEST_TEXT (X : K.In h) (G : h.Ns mainGlobals mg) (c : He.SaysX fa fn ts [] ex w h K) : Glb K w mg "LONGEST_TEXT" k_LONGEST_TEXT := glb_int X G (c.t.d.fact 45 (f := .int "LONGEST_TEXT" (100)) rfl)
theorem g_LONGEST_NAME (X : K.In h) (G : h.Ns mainGlobals mg) (c : He.SaysX fa fn ts [] ex w h K) : Glb K w mg "LONGEST_NAME" k_LONGEST_NAME := glb_int X G (c.t.d.fact 43 (f := .int "LONGEST_NAME" (8)) rfl)
theorem g_BARRED (X : K.In h) (G : h.Ns mainGlobals mg) (c : He.SaysX fa fn ts [] ex w h K) : Glb K w mg "BARRED" k_BARRED := glb_tup (vs := v_BARRED) X G (c.t.d.fact 42 (f := .glo "BARRED") rfl) (ex_parts c.more).1 (.cons (dv_str "and") (.cons (dv_str "or") (.cons (dv_str "not") (.cons (dv_str "rest") (.cons (dv_str "size") (.cons (dv_str "part") (.cons (dv_str "why") (.cons (dv_str "where") (.cons (dv_str "to") (.cons (dv_str "by") (.cons (dv_str "go") (.cons (dv_str "call") DvsOf.nil))))))))))))
theorem g_LETTERS (X : K.In h) (G : h.Ns mainGlobals mg) (c : He.SaysX fa fn ts [] ex w h K) : Glb K w mg "LETTERS" k_LETTERS := glb_str X G (c.t.d.fact 41 (f := .str "LETTERS" "abcdefghijklmnopqrstuvwxyz") rfl)
theorem g_GREATEST (X : K.In h) (G : h.Ns mainGlobals mg) (c : He.SaysX fa fn ts [] ex w h K) : Glb K w mg "GREATEST" k_GREATEST := glb_int X G (c.t.d.fact 44 (f := .int "GREATEST" (1000000000000)) rfl)
theorem g_SIGNS_words (X : K.In h) (G : h.Ns mainGlobals mg) (c : He.SaysX fa fn ts [] ex w h K) : Glb K w mg "SIGNS_words" k_SIGNS_words := glb_tup (vs := v_SIGNS_words) X G (c.t.d.fact 49 (f := .glo "SIGNS_words") rfl) (ex_parts c.more).2.1 (.cons (dv_str "+") (.cons (dv_str "-") (.cons (dv_str "*") (.cons (dv_str "/") (.cons (dv_str "rest") (.cons (dv_str "<") (.cons (dv_str "=") (.cons (dv_str ">") (.cons (dv_str "and") (.cons (dv_str "or") DvsOf.nil))))))))))
theorem g_WITHIN (X : K.In h) (G : h.Ns mainGlobals mg) (c : He.SaysX fa fn ts [] ex w h K) : Glb K w mg "WITHIN" k_WITHIN := glb_tab (kvs := v_WITHIN) X G (c.t.d.fact 50 (f := .glo "WITHIN") rfl) (saysT_keys c.t 0) (ex_parts c.more).2.2.2.1 (.cons (dv_int _) (.cons (dv_int _) (.cons (dv_int _) (.cons (dv_int _) (.cons (dv_int _) (.cons (dv_int _) (.cons (dv_int _) DvsOf.nil)))))))
theorem g_DEEPEST (X : K.In h) (G : h.Ns mainGlobals mg) (c : He.SaysX fa fn ts [] ex w h K) : Glb K w mg "DEEPEST" k_DEEPEST := glb_int X G (c.t.d.fact 47 (f := .int "DEEPEST" (8)) rfl)
theorem g_MOST_EXPRESSIONS (X : K.In h) (G : h.Ns mainGlobals mg) (c : He.SaysX fa fn ts [] ex w h K) : Glb K w mg "MOST_EXPRESSIONS" k_MOST_EXPRESSIONS := glb_int X G (c.t.d.fact 48 (f := .int "MOST_EXPRESSIONS" (40)) rfl)
theorem g_FIGURES (X : K.In h) (G : h.Ns mainGlobals mg) (c : He.SaysX fa fn ts [] ex w h K) : Glb K w mg "FIGURES" k_FIGURES := glb_str X G (c.t.d.fact 51 (f := .str "FIGURES" "0123456789") rfl)
theorem g_SIGNS_tokens (X : K.In h) (G : h.Ns mainGlobals mg) (c : He.SaysX fa fn ts [] ex w h K) : Glb K w mg "SIGNS_tokens" k_SIGNS_tokens := glb_str X G (c.t.d.fact 52 (f := .str "SIGNS_tokens" "()[],;=+-*/<>") rfl)
theorem g_MOST_FIGURES (X : K.In h) (G : h.Ns mainGlobals mg) (c : He.SaysX fa fn ts [] ex w h K) : Glb K w mg "MOST_FIGURES" k_MOST_FIGURES := glb_int X G (c.t.d.fact 53 (f := .int "MOST_FIGURES" (13)) rfl)
theorem g_ALONE (X : K.In h) (G : h.Ns mainGlobals mg) (c : He.SaysX fa fn ts [] ex w h K) : Glb K w mg "ALONE" k_ALONE := glb_tup (vs := v_ALONE) X G (c.t.d.fact 55 (f := .glo "ALONE") rfl) (ex_parts c.more).2.2.1 (.cons (dv_str "why") (.cons (dv_str "where") DvsOf.nil))
theorem g_CALLED (X : K.In h) (G : h.Ns mainGlobals mg) (c : He.SaysX fa fn ts [] ex w h K) : Glb K w mg "CALLED" k_CALLED := glb_tab (kvs := v_CALLED) X G (c.t.d.fact 54 (f := .glo "CALLED") rfl) (saysT_keys c.t 1) (ex_parts c.more).2.2.2.2 (.cons (dv_int _) (.cons (dv_int _) (.cons (dv_int _) DvsOf.nil)))
theorem n_list (X : K.In h) (G : h.Ns mainGlobals mg) (c : He.SaysX fa fn ts [] ex w h K) : mg "list" = none := He.free_ok X G (c.t.d.fact 68 (f := .free "list") rfl)
theorem n_len (X : K.In h) (G : h.Ns mainGlobals mg) (c : He.SaysX fa fn ts [] ex w h K) : mg "len" = none := He.free_ok X G (c.t.d.fact 57 (f := .free "len") rfl)
theorem n_abs (X : K.In h) (G : h.Ns mainGlobals mg) (c : He.SaysX fa fn ts [] ex w h K) : mg "abs" = none := He.free_ok X G (c.t.d.fact 60 (f := .free "abs") rfl)
theorem n_int (X : K.In h) (G : h.Ns mainGlobals mg) (c : He.SaysX fa fn ts [] ex w h K) : mg "int" = none := He.free_ok X G (c.t.d.fact 65 (f := .free "int") rfl)
theorem n_range (X : K.In h) (G : h.Ns mainGlobals mg) (c : He.SaysX fa fn ts [] ex w h K) : mg "range" = none := He.free_ok X G (c.t.d.fact 63 (f := .free "range") rfl)
theorem n_tuple (X : K.In h) (G : h.Ns mainGlobals mg) (c : He.SaysX fa fn ts [] ex w h K) : mg "tuple" = none := He.free_ok X G (c.t.d.fact 67 (f := .free "tuple") rfl)
theorem n_min (X : K.In h) (G : h.Ns mainGlobals mg) (c : He.SaysX fa fn ts [] ex w h K) : mg "min" = none := He.free_ok X G (c.t.d.fact 61 (f := .free "min") rfl)
theorem n_isinstance (X : K.In h) (G : h.Ns mainGlobals mg) (c : He.SaysX fa fn ts [] ex w h K) : mg "isinstance" = none := He.free_ok X G (c.t.d.fact 59 (f := .free "isinstance") rfl)
theorem n_str (X : K.In h) (G : h.Ns mainGlobals mg) (c : He.SaysX fa fn ts [] ex w h K) : mg "str" = none := He.free_ok X G (c.t.d.fact 64 (f := .free "str") rfl)
theorem n_bool (X : K.In h) (G : h.Ns mainGlobals mg) (c : He.SaysX fa fn ts [] ex w h K) : mg "bool" = none := He.free_ok X G (c.t.d.fact 66 (f := .free "bool") rfl)
theorem n_all (X : K.In h) (G : h.Ns mainGlobals mg) (c : He.SaysX fa fn ts [] ex w h K) : mg "all" = none := He.free_ok X G (c.t.d.fact 58 (f := .free "all") rfl)
theorem n_repr (X : K.In h) (G : h.Ns mainGlobals mg) (c : He.SaysX fa fn ts [] ex w h K) : mg "repr" = none := He.free_ok X G (c.t.d.fact 62 (f := .free "repr") rfl)
theorem cf_Reading_rest (X : K.In h) (G : h.Ns mainGlobals mg) (c : He.SaysX fa fn ts [] ex w h K) : ClsF K mg "Reading" "rest" := clsF_of X G (c.t.d.fact 25 (f := .glo "Reading") rfl) (c.t.d.fact 26 (f := .cls "Reading") rfl) (c.t.d.fact 28 (f := .noat "Reading" "rest") rfl)
theorem cf_Reading_spot (X : K.In h) (G : h.Ns mainGlobals mg) (c : He.SaysX fa fn ts [] ex w h K) : ClsF K mg "Reading" "spot" := clsF_of X G (c.t.d.fact 25 (f := .glo "Reading") rfl) (c.t.d.fact 26 (f := .cls "Reading") rfl) (c.t.d.fact 29 (f := .noat "Reading" "spot") rfl)
theorem fd_l_pen (c : He.SaysX fa fn ts [] ex w h K) : ∃ fd, FunD K "_law_pen" "_law_pen" (defArgs (top 43)) (defBody (top 43)) (defScope (top 43)) [] [] (He.fAd K ("_law_pen", none)) fd := c.t.d.def_ 17 rfl
theorem fd_l_draw (c : He.SaysX fa fn ts [] ex w h K) : ∃ fd, FunD K "_law_draw" "_law_draw" (defArgs (top 44)) (defBody (top 44)) (defScope (top 44)) [] [] (He.fAd K ("_law_draw", none)) fd := c.t.d.def_ 18 rfl
theorem fd_l_number (c : He.SaysX fa fn ts [] ex w h K) : ∃ fd, FunD K "_law_number" "_law_number" (defArgs (top 46)) (defBody (top 46)) (defScope (top 46)) [] [] (He.fAd K ("_law_number", none)) fd := c.t.d.def_ 20 rfl
theorem fd_l_text (c : He.SaysX fa fn ts [] ex w h K) : ∃ fd, FunD K "_law_text" "_law_text" (defArgs (top 45)) (defBody (top 45)) (defScope (top 45)) [] [] (He.fAd K ("_law_text", none)) fd := c.t.d.def_ 19 rfl
theorem fd_l_expression (c : He.SaysX fa fn ts [] ex w h K) : ∃ fd, FunD K "_law_expression" "_law_expression" (defArgs (top 47)) (defBody (top 47)) (defScope (top 47)) [] [] (He.fAd K ("_law_expression", none)) fd := c.t.d.def_ 21 rfl
theorem fd_l_great (c : He.SaysX fa fn ts [] ex w h K) : ∃ fd, FunD K "_law_great" "_law_great" (defArgs (top 48)) (defBody (top 48)) (defScope (top 48)) [] [] (He.fAd K ("_law_great", none)) fd := c.t.d.def_ 22 rfl
theorem fd_is_tuple (c : He.SaysX fa fn ts [] ex w h K) : ∃ fd, FunD K "is_tuple" "is_tuple" (defArgs (top 15)) (defBody (top 15)) (defScope (top 15)) [] [] (He.fAd K ("is_tuple", none)) fd := c.t.d.def_ 3 rfl
theorem fd_is_worded (c : He.SaysX fa fn ts [] ex w h K) : ∃ fd, FunD K "is_worded" "is_worded" (defArgs (top 16)) (defBody (top 16)) (defScope (top 16)) [] [] (He.fAd K ("is_worded", none)) fd := c.t.d.def_ 4 rfl
theorem fd_is_whole (c : He.SaysX fa fn ts [] ex w h K) : ∃ fd, FunD K "is_whole" "is_whole" (defArgs (top 13)) (defBody (top 13)) (defScope (top 13)) [] [] (He.fAd K ("is_whole", none)) fd := c.t.d.def_ 1 rfl
theorem fd_is_text (c : He.SaysX fa fn ts [] ex w h K) : ∃ fd, FunD K "is_text" "is_text" (defArgs (top 14)) (defBody (top 14)) (defScope (top 14)) [] [] (He.fAd K ("is_text", none)) fd := c.t.d.def_ 2 rfl
theorem fd_is_name (c : He.SaysX fa fn ts [] ex w h K) : ∃ fd, FunD K "is_name" "is_name" (defArgs (top 12)) (defBody (top 12)) (defScope (top 12)) [] [] (He.fAd K ("is_name", none)) fd := c.t.d.def_ 0 rfl
theorem fd_parts_of (c : He.SaysX fa fn ts [] ex w h K) : ∃ fd, FunD K "parts_of" "parts_of" (defArgs (top 17)) (defBody (top 17)) (defScope (top 17)) [] [] (He.fAd K ("parts_of", none)) fd := c.t.d.def_ 5 rfl
theorem fd_has_form (c : He.SaysX fa fn ts [] ex w h K) : ∃ fd, FunD K "has_form" "has_form" (defArgs (top 18)) (defBody (top 18)) (defScope (top 18)) [] [] (He.fAd K ("has_form", none)) fd := c.t.d.def_ 6 rfl
theorem fd_is_expression (c : He.SaysX fa fn ts [] ex w h K) : ∃ fd, FunD K "is_expression" "is_expression" (defArgs (top 19)) (defBody (top 19)) (defScope (top 19)) [] [] (He.fAd K ("is_expression", none)) fd := c.t.d.def_ 7 rfl
theorem fd_l_shown (c : He.SaysX fa fn ts [] ex w h K) : ∃ fd, FunD K "_law_shown" "_law_shown" (defArgs (top 49)) (defBody (top 49)) (defScope (top 49)) [] [] (He.fAd K ("_law_shown", none)) fd := c.t.d.def_ 23 rfl
theorem fd_show_worth (c : He.SaysX fa fn ts [] ex w h K) : ∃ fd, FunD K "show_worth" "show_worth" (defArgs (top 21)) (defBody (top 21)) (defScope (top 21)) [] [] (He.fAd K ("show_worth", none)) fd := c.t.d.def_ 8 rfl
theorem fd_show_expression (c : He.SaysX fa fn ts [] ex w h K) : ∃ fd, FunD K "show_expression" "show_expression" (defArgs (top 22)) (defBody (top 22)) (defScope (top 22)) [] [] (He.fAd K ("show_expression", none)) fd := c.t.d.def_ 9 rfl
theorem fd_Reading_init__ (c : He.SaysX fa fn ts [] ex w h K) : ∃ fd, FunD K "__init__" "Reading.__init__" (defArgs (mem 40 0)) (defBody (mem 40 0)) (defScope (mem 40 0)) [] [] (He.fAd K ("Reading", some "__init__")) fd := c.t.d.def_ 25 rfl
theorem fd_run_end (c : He.SaysX fa fn ts [] ex w h K) : ∃ fd, FunD K "run_end" "run_end" (defArgs (top 30)) (defBody (top 30)) (defScope (top 30)) [] [] (He.fAd K ("run_end", none)) fd := c.t.d.def_ 11 rfl
theorem fd_refuse_unless (c : He.SaysX fa fn ts [] ex w h K) : ∃ fd, FunD K "refuse_unless" "refuse_unless" (defArgs (top 29)) (defBody (top 29)) (defScope (top 29)) [] [] (He.fAd K ("refuse_unless", none)) fd := c.t.d.def_ 10 rfl
theorem fd_is_plain (c : He.SaysX fa fn ts [] ex w h K) : ∃ fd, FunD K "is_plain" "is_plain" (defArgs (top 31)) (defBody (top 31)) (defScope (top 31)) [] [] (He.fAd K ("is_plain", none)) fd := c.t.d.def_ 12 rfl
theorem fd_kind_at (c : He.SaysX fa fn ts [] ex w h K) : ∃ fd, FunD K "kind_at" "kind_at" (defArgs (top 32)) (defBody (top 32)) (defScope (top 32)) [] [] (He.fAd K ("kind_at", none)) fd := c.t.d.def_ 13 rfl
theorem fd_is_noted (c : He.SaysX fa fn ts [] ex w h K) : ∃ fd, FunD K "is_noted" "is_noted" (defArgs (top 33)) (defBody (top 33)) (defScope (top 33)) [] [] (He.fAd K ("is_noted", none)) fd := c.t.d.def_ 14 rfl
theorem fd_tokens (c : He.SaysX fa fn ts [] ex w h K) : ∃ fd, FunD K "tokens" "tokens" (defArgs (top 34)) (defBody (top 34)) (defScope (top 34)) [] [] (He.fAd K ("tokens", none)) fd := c.t.d.def_ 15 rfl
theorem fd_Reading_look (c : He.SaysX fa fn ts [] ex w h K) : ∃ fd, FunD K "look" "Reading.look" (defArgs (mem 40 1)) (defBody (mem 40 1)) (defScope (mem 40 1)) [] [] (He.fAd K ("Reading", some "look")) fd := c.t.d.def_ 26 rfl
theorem fd_Reading_take (c : He.SaysX fa fn ts [] ex w h K) : ∃ fd, FunD K "take" "Reading.take" (defArgs (mem 40 3)) (defBody (mem 40 3)) (defScope (mem 40 3)) [] [] (He.fAd K ("Reading", some "take")) fd := c.t.d.def_ 28 rfl
theorem fd_Reading_counted (c : He.SaysX fa fn ts [] ex w h K) : ∃ fd, FunD K "counted" "Reading.counted" (defArgs (mem 40 5)) (defBody (mem 40 5)) (defScope (mem 40 5)) [] [] (He.fAd K ("Reading", some "counted")) fd := c.t.d.def_ 30 rfl
theorem fd_Reading_must (c : He.SaysX fa fn ts [] ex w h K) : ∃ fd, FunD K "must" "Reading.must" (defArgs (mem 40 4)) (defBody (mem 40 4)) (defScope (mem 40 4)) [] [] (He.fAd K ("Reading", some "must")) fd := c.t.d.def_ 29 rfl
theorem fd_Reading_of_two (c : He.SaysX fa fn ts [] ex w h K) : ∃ fd, FunD K "of_two" "Reading.of_two" (defArgs (mem 40 10)) (defBody (mem 40 10)) (defScope (mem 40 10)) [] [] (He.fAd K ("Reading", some "of_two")) fd := c.t.d.def_ 35 rfl
theorem fd_Reading_within (c : He.SaysX fa fn ts [] ex w h K) : ∃ fd, FunD K "within" "Reading.within" (defArgs (mem 40 7)) (defBody (mem 40 7)) (defScope (mem 40 7)) [] [] (He.fAd K ("Reading", some "within")) fd := c.t.d.def_ 32 rfl
theorem fd_Reading_is_next (c : He.SaysX fa fn ts [] ex w h K) : ∃ fd, FunD K "is_next" "Reading.is_next" (defArgs (mem 40 2)) (defBody (mem 40 2)) (defScope (mem 40 2)) [] [] (He.fAd K ("Reading", some "is_next")) fd := c.t.d.def_ 27 rfl
theorem fd_Reading_placed (c : He.SaysX fa fn ts [] ex w h K) : ∃ fd, FunD K "placed" "Reading.placed" (defArgs (mem 40 9)) (defBody (mem 40 9)) (defScope (mem 40 9)) [] [] (He.fAd K ("Reading", some "placed")) fd := c.t.d.def_ 34 rfl
theorem fd_Reading_called (c : He.SaysX fa fn ts [] ex w h K) : ∃ fd, FunD K "called" "Reading.called" (defArgs (mem 40 8)) (defBody (mem 40 8)) (defScope (mem 40 8)) [] [] (He.fAd K ("Reading", some "called")) fd := c.t.d.def_ 33 rfl
theorem fd_Reading_expression (c : He.SaysX fa fn ts [] ex w h K) : ∃ fd, FunD K "expression" "Reading.expression" (defArgs (mem 40 11)) (defBody (mem 40 11)) (defScope (mem 40 11)) [V.int 1] [] (He.fAd K ("Reading", some "expression")) fd := c.t.d.def_ 36 rfl
theorem fd_read_expression (c : He.SaysX fa fn ts [] ex w h K) : ∃ fd, FunD K "read_expression" "read_expression" (defArgs (top 41)) (defBody (top 41)) (defScope (top 41)) [] [] (He.fAd K ("read_expression", none)) fd := c.t.d.def_ 16 rfl
theorem fd_law (c : He.SaysX fa fn ts [] ex w h K) : ∃ fd, FunD K "law" "law" (defArgs (top 50)) (defBody (top 50)) (defScope (top 50)) [] [] (He.fAd K ("law", none)) fd := c.t.d.def_ 24 rfl
theorem calls (X : K.In h) (G : h.Ns mainGlobals mg) (c : He.SaysX fa fn ts [] ex w h K) : ∃ fd : FuncData, (∀ (s : Shared) (v : Value), BindsTo s fd ⟨[v], []⟩ [("_law_script", v)]) ∧ ∀ base : Heap, FnDen P w K mg base 70 (He.ga K "law") fd ["_law_script"] A_law := by
  obtain ⟨fd_l_pen, F_l_pen⟩ := fd_l_pen c
  obtain ⟨fd_l_draw, F_l_draw⟩ := fd_l_draw c
  obtain ⟨fd_l_number, F_l_number⟩ := fd_l_number c
  obtain ⟨fd_l_text, F_l_text⟩ := fd_l_text c
  obtain ⟨fd_l_expression, F_l_expression⟩ := fd_l_expression c
  obtain ⟨fd_l_great, F_l_great⟩ := fd_l_great c
  obtain ⟨fd_is_tuple, F_is_tuple⟩ := fd_is_tuple c
  obtain ⟨fd_is_worded, F_is_worded⟩ := fd_is_worded c
  obtain ⟨fd_is_whole, F_is_whole⟩ := fd_is_whole c
  obtain ⟨fd_is_text, F_is_text⟩ := fd_is_text c
  obtain ⟨fd_is_name, F_is_name⟩ := fd_is_name c
  obtain ⟨fd_parts_of, F_parts_of⟩ := fd_parts_of c
  obtain ⟨fd_has_form, F_has_form⟩ := fd_has_form c
  obtain ⟨fd_is_expression, F_is_expression⟩ := fd_is_expression c
  obtain ⟨fd_l_shown, F_l_shown⟩ := fd_l_shown c
  obtain ⟨fd_show_worth, F_show_worth⟩ := fd_show_worth c
  obtain ⟨fd_show_expression, F_show_expression⟩ := fd_show_expression c
  obtain ⟨fd_Reading_init__, F_Reading_init__⟩ := fd_Reading_init__ c
  obtain ⟨fd_run_end, F_run_end⟩ := fd_run_end c
  obtain ⟨fd_refuse_unless, F_refuse_unless⟩ := fd_refuse_unless c
  obtain ⟨fd_is_plain, F_is_plain⟩ := fd_is_plain c
  obtain ⟨fd_kind_at, F_kind_at⟩ := fd_kind_at c
  obtain ⟨fd_is_noted, F_is_noted⟩ := fd_is_noted c
  obtain ⟨fd_tokens, F_tokens⟩ := fd_tokens c
  obtain ⟨fd_Reading_look, F_Reading_look⟩ := fd_Reading_look c
  obtain ⟨fd_Reading_take, F_Reading_take⟩ := fd_Reading_take c
  obtain ⟨fd_Reading_counted, F_Reading_counted⟩ := fd_Reading_counted c
  obtain ⟨fd_Reading_must, F_Reading_must⟩ := fd_Reading_must c
  obtain ⟨fd_Reading_of_two, F_Reading_of_two⟩ := fd_Reading_of_two c
  obtain ⟨fd_Reading_within, F_Reading_within⟩ := fd_Reading_within c
  obtain ⟨fd_Reading_is_next, F_Reading_is_next⟩ := fd_Reading_is_next c
  obtain ⟨fd_Reading_placed, F_Reading_placed⟩ := fd_Reading_placed c
  obtain ⟨fd_Reading_called, F_Reading_called⟩ := fd_Reading_called c
  obtain ⟨fd_Reading_expression, F_Reading_expression⟩ := fd_Reading_expression c
  obtain ⟨fd_read_expression, F_read_expression⟩ := fd_read_expression c
  obtain ⟨fd_law, F_law⟩ := fd_law c
  refine ⟨fd_law, fun s v => FunD.bindsA (ps := ["_law_script"]) F_law (fun _ _ _ _ _ _ us hl => match us, hl with | [_], _ => rfl) s [v] rfl, fun base => ?_⟩
  have e_l_pen : FnDen P w K mg base (1) (He.fAd K ("_law_pen", none)) fd_l_pen ["_law_script"] A_pen := d_l_pen (k := 0) F_l_pen (n_list X G c)
  have c_l_pen : CallG P w K mg base "_law_pen" (1) 1 A_pen [] := callG_of X G (c.t.d.fact 17 (f := .glo "_law_pen") rfl) F_l_pen (fun _ _ _ _ _ _ us hl => match us, hl with | [_], _ => rfl) e_l_pen
  have e_l_draw : FnDen P w K mg base (1) (He.fAd K ("_law_draw", none)) fd_l_draw ["_law_pen_here", "_law_many"] A_draw := d_l_draw (k := 0) F_l_draw (n_len X G c) (n_abs X G c) (n_int X G c)
  have c_l_draw : CallG P w K mg base "_law_draw" (1) 2 A_draw [] := callG_of X G (c.t.d.fact 18 (f := .glo "_law_draw") rfl) F_l_draw (fun _ _ _ _ _ _ us hl => match us, hl with | [_, _], _ => rfl) e_l_draw
  have e_l_number : FnDen P w K mg base (2) (He.fAd K ("_law_number", none)) fd_l_number ["_law_pen_here"] A_number := d_l_number (k := 1) F_l_number (CallG.mono c_l_draw (by omega))
  have c_l_number : CallG P w K mg base "_law_number" (2) 1 A_number [] := callG_of X G (c.t.d.fact 20 (f := .glo "_law_number") rfl) F_l_number (fun _ _ _ _ _ _ us hl => match us, hl with | [_], _ => rfl) e_l_number
  have e_l_text : FnDen P w K mg base (2) (He.fAd K ("_law_text", none)) fd_l_text ["_law_pen_here"] A_text := d_l_text (k := 1) F_l_text (CallG.mono c_l_draw (by omega))
  have c_l_text : CallG P w K mg base "_law_text" (2) 1 A_text [] := callG_of X G (c.t.d.fact 19 (f := .glo "_law_text") rfl) F_l_text (fun _ _ _ _ _ _ us hl => match us, hl with | [_], _ => rfl) e_l_text
  have den_l_expression : ∀ m : Nat, FnDen P w K mg base (2 + 1 * m) (He.fAd K ("_law_expression", none)) fd_l_expression ["_law_pen_here", "_law_deep"] (A_lexpr m) := by
    intro m
    induction m with
    | zero => exact FnDen.never
    | succ m ih =>
      have c_l_expression : CallG P w K mg base "_law_expression" (2 + 1 * m + 0) 2 (A_lexpr m) [] := callG_of X G (c.t.d.fact 21 (f := .glo "_law_expression") rfl) F_l_expression (fun _ _ _ _ _ _ us hl => match us, hl with | [_, _], _ => rfl) ih
      have e_l_expression : FnDen P w K mg base (2 + 1 * m + 1) (He.fAd K ("_law_expression", none)) fd_l_expression ["_law_pen_here", "_law_deep"] (A_lexpr (m + 1)) := d_l_expression (k := 2 + 1 * m + 0) F_l_expression (CallG.mono c_l_draw (by omega)) (CallG.mono c_l_expression (by omega)) (CallG.mono c_l_number (by omega)) (CallG.mono c_l_text (by omega)) (n_range X G c) (n_tuple X G c) (n_min X G c)
      exact e_l_expression.mono (by omega)
  have c_l_expression : CallG P w K mg base "_law_expression" (7) 2 (A_lexpr 5) [] := callG_of X G (c.t.d.fact 21 (f := .glo "_law_expression") rfl) F_l_expression (fun _ _ _ _ _ _ us hl => match us, hl with | [_, _], _ => rfl) (den_l_expression 5)
  have e_l_great : FnDen P w K mg base (8) (He.fAd K ("_law_great", none)) fd_l_great ["_law_pen_here"] A_great := d_l_great (k := 7) F_l_great (CallG.mono c_l_expression (by omega)) (CallG.mono c_l_draw (by omega)) (n_range X G c)
  have c_l_great : CallG P w K mg base "_law_great" (8) 1 A_great [] := callG_of X G (c.t.d.fact 22 (f := .glo "_law_great") rfl) F_l_great (fun _ _ _ _ _ _ us hl => match us, hl with | [_], _ => rfl) e_l_great
  have e_is_tuple : FnDen P w K mg base (1) (He.fAd K ("is_tuple", none)) fd_is_tuple ["thing", "least", "most"] A_is_tuple := d_is_tuple (k := 0) F_is_tuple (n_tuple X G c) (n_isinstance X G c) (n_len X G c)
  have c_is_tuple : CallG P w K mg base "is_tuple" (1) 3 A_is_tuple [] := callG_of X G (c.t.d.fact 3 (f := .glo "is_tuple") rfl) F_is_tuple (fun _ _ _ _ _ _ us hl => match us, hl with | [_, _, _], _ => rfl) e_is_tuple
  have e_is_worded : FnDen P w K mg base (2) (He.fAd K ("is_worded", none)) fd_is_worded ["thing"] A_is_worded := d_is_worded (k := 1) F_is_worded (CallG.mono c_is_tuple (by omega)) (n_str X G c) (n_isinstance X G c) (g_LAST_NUMBER X G c)
  have c_is_worded : CallG P w K mg base "is_worded" (2) 1 A_is_worded [] := callG_of X G (c.t.d.fact 4 (f := .glo "is_worded") rfl) F_is_worded (fun _ _ _ _ _ _ us hl => match us, hl with | [_], _ => rfl) e_is_worded
  have e_is_whole : FnDen P w K mg base (1) (He.fAd K ("is_whole", none)) fd_is_whole ["thing", "least", "greatest"] A_is_whole := d_is_whole (k := 0) F_is_whole (n_int X G c) (n_isinstance X G c) (n_bool X G c)
  have c_is_whole : CallG P w K mg base "is_whole" (1) 3 A_is_whole [] := callG_of X G (c.t.d.fact 1 (f := .glo "is_whole") rfl) F_is_whole (fun _ _ _ _ _ _ us hl => match us, hl with | [_, _, _], _ => rfl) e_is_whole
  have e_is_text : FnDen P w K mg base (1) (He.fAd K ("is_text", none)) fd_is_text ["thing"] A_is_text := d_is_text (k := 0) F_is_text (n_str X G c) (n_isinstance X G c) (n_len X G c) (n_all X G c) (g_LONGEST_TEXT X G c)
  have c_is_text : CallG P w K mg base "is_text" (1) 1 A_is_text [] := callG_of X G (c.t.d.fact 2 (f := .glo "is_text") rfl) F_is_text (fun _ _ _ _ _ _ us hl => match us, hl with | [_], _ => rfl) e_is_text
  have e_is_name : FnDen P w K mg base (1) (He.fAd K ("is_name", none)) fd_is_name ["thing"] A_is_name := d_is_name (k := 0) F_is_name (n_str X G c) (n_isinstance X G c) (n_len X G c) (n_all X G c) (g_LONGEST_NAME X G c) (g_BARRED X G c) (g_LETTERS X G c)
  have c_is_name : CallG P w K mg base "is_name" (1) 1 A_is_name [] := callG_of X G (c.t.d.fact 0 (f := .glo "is_name") rfl) F_is_name (fun _ _ _ _ _ _ us hl => match us, hl with | [_], _ => rfl) e_is_name
  have e_parts_of : FnDen P w K mg base (1) (He.fAd K ("parts_of", none)) fd_parts_of ["expression"] A_parts_of := d_parts_of (k := 0) F_parts_of 
  have c_parts_of : CallG P w K mg base "parts_of" (1) 1 A_parts_of [] := callG_of X G (c.t.d.fact 5 (f := .glo "parts_of") rfl) F_parts_of (fun _ _ _ _ _ _ us hl => match us, hl with | [_], _ => rfl) e_parts_of
  have e_has_form : FnDen P w K mg base (3) (He.fAd K ("has_form", none)) fd_has_form ["thing"] A_has_form := d_has_form (k := 2) F_has_form (CallG.mono c_is_worded (by omega)) (CallG.mono c_is_whole (by omega)) (CallG.mono c_is_text (by omega)) (CallG.mono c_is_name (by omega)) (CallG.mono c_parts_of (by omega)) (n_len X G c) (g_GREATEST X G c) (g_SIGNS_words X G c) (g_WITHIN X G c)
  have c_has_form : CallG P w K mg base "has_form" (3) 1 A_has_form [] := callG_of X G (c.t.d.fact 6 (f := .glo "has_form") rfl) F_has_form (fun _ _ _ _ _ _ us hl => match us, hl with | [_], _ => rfl) e_has_form
  have e_is_expression : FnDen P w K mg base (4) (He.fAd K ("is_expression", none)) fd_is_expression ["thing"] A_is_expression := d_is_expression (k := 3) F_is_expression (CallG.mono c_has_form (by omega)) (CallG.mono c_parts_of (by omega)) (g_DEEPEST X G c) (g_MOST_EXPRESSIONS X G c)
  have c_is_expression : CallG P w K mg base "is_expression" (4) 1 A_is_expression [] := callG_of X G (c.t.d.fact 7 (f := .glo "is_expression") rfl) F_is_expression (fun _ _ _ _ _ _ us hl => match us, hl with | [_], _ => rfl) e_is_expression
  have den_l_shown : ∀ m : Nat, FnDen P w K mg base (0 + 1 * m) (He.fAd K ("_law_shown", none)) fd_l_shown ["_law_e"] (A_shown m) := by
    intro m
    induction m with
    | zero => exact FnDen.never
    | succ m ih =>
      have c_l_shown : CallG P w K mg base "_law_shown" (0 + 1 * m + 0) 1 (A_shown m) [] := callG_of X G (c.t.d.fact 23 (f := .glo "_law_shown") rfl) F_l_shown (fun _ _ _ _ _ _ us hl => match us, hl with | [_], _ => rfl) ih
      have e_l_shown : FnDen P w K mg base (0 + 1 * m + 1) (He.fAd K ("_law_shown", none)) fd_l_shown ["_law_e"] (A_shown (m + 1)) := d_l_shown (k := 0 + 1 * m + 0) F_l_shown (CallG.mono c_l_shown (by omega)) (n_str X G c) (n_int X G c)
      exact e_l_shown.mono (by omega)
  have c_l_shown : CallG P w K mg base "_law_shown" (9) 1 (A_shown 9) [] := callG_of X G (c.t.d.fact 23 (f := .glo "_law_shown") rfl) F_l_shown (fun _ _ _ _ _ _ us hl => match us, hl with | [_], _ => rfl) (den_l_shown 9)
  have e_show_worth : FnDen P w K mg base (1) (He.fAd K ("show_worth", none)) fd_show_worth ["worth"] A_show_worth := d_show_worth (k := 0) F_show_worth (n_str X G c) (n_isinstance X G c)
  have c_show_worth : CallG P w K mg base "show_worth" (1) 1 A_show_worth [] := callG_of X G (c.t.d.fact 8 (f := .glo "show_worth") rfl) F_show_worth (fun _ _ _ _ _ _ us hl => match us, hl with | [_], _ => rfl) e_show_worth
  have den_show_expression : ∀ m : Nat, FnDen P w K mg base (1 + 1 * m) (He.fAd K ("show_expression", none)) fd_show_expression ["expression"] (A_show m) := by
    intro m
    induction m with
    | zero => exact FnDen.never
    | succ m ih =>
      have c_show_expression : CallG P w K mg base "show_expression" (1 + 1 * m + 0) 1 (A_show m) [] := callG_of X G (c.t.d.fact 9 (f := .glo "show_expression") rfl) F_show_expression (fun _ _ _ _ _ _ us hl => match us, hl with | [_], _ => rfl) ih
      have e_show_expression : FnDen P w K mg base (1 + 1 * m + 1) (He.fAd K ("show_expression", none)) fd_show_expression ["expression"] (A_show (m + 1)) := d_show_expression (k := 1 + 1 * m + 0) F_show_expression (CallG.mono c_show_worth (by omega)) (CallG.mono c_parts_of (by omega)) (CallG.mono c_show_expression (by omega)) (n_str X G c) (g_SIGNS_words X G c)
      exact e_show_expression.mono (by omega)
  have c_show_expression : CallG P w K mg base "show_expression" (10) 1 (A_show 9) [] := callG_of X G (c.t.d.fact 9 (f := .glo "show_expression") rfl) F_show_expression (fun _ _ _ _ _ _ us hl => match us, hl with | [_], _ => rfl) (den_show_expression 9)
  have e_Reading_init__ : FnDen P w K mg base (1) (He.fAd K ("Reading", some "__init__")) fd_Reading_init__ ["self", "some"] A_init := d_Reading_init__ (k := 0) F_Reading_init__ (cf_Reading_rest X G c) (cf_Reading_spot X G c)
  have c_Reading_init__ : CallGN P w K mg base "Reading" (1) 2 A_init [] := callN_of X G (c.t.d.fact 25 (f := .glo "Reading") rfl) (c.t.d.fact 27 (f := .mkr "Reading") rfl) F_Reading_init__ (fun _ _ _ _ _ _ us hl => match us, hl with | [_, _], _ => rfl) e_Reading_init__
  have e_run_end : FnDen P w K mg base (1) (He.fAd K ("run_end", none)) fd_run_end ["text", "at", "signs"] A_run_end := d_run_end (k := 0) F_run_end (n_len X G c)
  have c_run_end : CallG P w K mg base "run_end" (1) 3 A_run_end [] := callG_of X G (c.t.d.fact 11 (f := .glo "run_end") rfl) F_run_end (fun _ _ _ _ _ _ us hl => match us, hl with | [_, _, _], _ => rfl) e_run_end
  have e_refuse_unless : FnDen P w K mg base (2) (He.fAd K ("refuse_unless", none)) fd_refuse_unless ["is_right"] A_refuse_unless := d_refuse_unless (k := 0) F_refuse_unless 
  have c_refuse_unless : CallG P w K mg base "refuse_unless" (2) 1 A_refuse_unless [] := callG_of X G (c.t.d.fact 10 (f := .glo "refuse_unless") rfl) F_refuse_unless (fun _ _ _ _ _ _ us hl => match us, hl with | [_], _ => rfl) e_refuse_unless
  have e_is_plain : FnDen P w K mg base (1) (He.fAd K ("is_plain", none)) fd_is_plain ["text"] A_is_plain := d_is_plain (k := 0) F_is_plain (n_all X G c)
  have c_is_plain : CallG P w K mg base "is_plain" (1) 1 A_is_plain [] := callG_of X G (c.t.d.fact 12 (f := .glo "is_plain") rfl) F_is_plain (fun _ _ _ _ _ _ us hl => match us, hl with | [_], _ => rfl) e_is_plain
  have e_kind_at : FnDen P w K mg base (3) (He.fAd K ("kind_at", none)) fd_kind_at ["text", "at"] A_kind_at := d_kind_at (k := 2) F_kind_at (CallG.mono c_run_end (by omega)) (CallG.mono c_refuse_unless (by omega)) (CallG.mono c_is_plain (by omega)) (g_LETTERS X G c) (g_FIGURES X G c) (g_SIGNS_tokens X G c)
  have c_kind_at : CallG P w K mg base "kind_at" (3) 2 A_kind_at [] := callG_of X G (c.t.d.fact 13 (f := .glo "kind_at") rfl) F_kind_at (fun _ _ _ _ _ _ us hl => match us, hl with | [_, _], _ => rfl) e_kind_at
  have e_is_noted : FnDen P w K mg base (1) (He.fAd K ("is_noted", none)) fd_is_noted ["found"] A_is_noted := d_is_noted (k := 0) F_is_noted (n_len X G c)
  have c_is_noted : CallG P w K mg base "is_noted" (1) 1 A_is_noted [] := callG_of X G (c.t.d.fact 14 (f := .glo "is_noted") rfl) F_is_noted (fun _ _ _ _ _ _ us hl => match us, hl with | [_], _ => rfl) e_is_noted
  have e_tokens : FnDen P w K mg base (5) (He.fAd K ("tokens", none)) fd_tokens ["text"] A_tokens := d_tokens (k := 3) F_tokens (CallG.mono c_kind_at (by omega)) (CallG.mono c_is_noted (by omega)) (CallG.mono c_refuse_unless (by omega)) (CallG.mono c_is_plain (by omega)) (n_str X G c) (n_isinstance X G c) (n_len X G c)
  have c_tokens : CallG P w K mg base "tokens" (5) 1 A_tokens [] := callG_of X G (c.t.d.fact 15 (f := .glo "tokens") rfl) F_tokens (fun _ _ _ _ _ _ us hl => match us, hl with | [_], _ => rfl) e_tokens
  have e_Reading_look : FnDen P w K mg base (1) (He.fAd K ("Reading", some "look")) fd_Reading_look ["self"] A_look := d_Reading_look (k := 0) F_Reading_look (n_len X G c) (cf_Reading_spot X G c) (cf_Reading_rest X G c)
  have c_Reading_look : CallGM P w K mg base "Reading" "look" (1) 1 A_look [] := callM_of X G (c.t.d.fact 25 (f := .glo "Reading") rfl) (c.t.d.fact 26 (f := .cls "Reading") rfl) (c.t.d.fact 30 (f := .meth "Reading" "look") rfl) F_Reading_look (fun _ _ _ _ _ _ us hl => match us, hl with | [_], _ => rfl) e_Reading_look
  have e_Reading_take : FnDen P w K mg base (3) (He.fAd K ("Reading", some "take")) fd_Reading_take ["self", "kind"] A_take := d_Reading_take (k := 2) F_Reading_take (CallGM.mono c_Reading_look (by omega)) (CallG.mono c_refuse_unless (by omega)) (cf_Reading_spot X G c)
  have c_Reading_take : CallGM P w K mg base "Reading" "take" (3) 2 A_take [] := callM_of X G (c.t.d.fact 25 (f := .glo "Reading") rfl) (c.t.d.fact 26 (f := .cls "Reading") rfl) (c.t.d.fact 32 (f := .meth "Reading" "take") rfl) F_Reading_take (fun _ _ _ _ _ _ us hl => match us, hl with | [_, _], _ => rfl) e_Reading_take
  have e_Reading_counted : FnDen P w K mg base (4) (He.fAd K ("Reading", some "counted")) fd_Reading_counted ["self"] A_counted := d_Reading_counted (k := 3) F_Reading_counted (CallGM.mono c_Reading_take (by omega)) (CallG.mono c_refuse_unless (by omega)) (n_len X G c) (n_int X G c) (g_MOST_FIGURES X G c)
  have c_Reading_counted : CallGM P w K mg base "Reading" "counted" (4) 1 A_counted [] := callM_of X G (c.t.d.fact 25 (f := .glo "Reading") rfl) (c.t.d.fact 26 (f := .cls "Reading") rfl) (c.t.d.fact 34 (f := .meth "Reading" "counted") rfl) F_Reading_counted (fun _ _ _ _ _ _ us hl => match us, hl with | [_], _ => rfl) e_Reading_counted
  have e_Reading_must : FnDen P w K mg base (4) (He.fAd K ("Reading", some "must")) fd_Reading_must ["self", "kind", "text"] A_must := d_Reading_must (k := 3) F_Reading_must (CallG.mono c_refuse_unless (by omega)) (CallGM.mono c_Reading_take (by omega))
  have c_Reading_must : CallGM P w K mg base "Reading" "must" (4) 3 A_must [] := callM_of X G (c.t.d.fact 25 (f := .glo "Reading") rfl) (c.t.d.fact 26 (f := .cls "Reading") rfl) (c.t.d.fact 33 (f := .meth "Reading" "must") rfl) F_Reading_must (fun _ _ _ _ _ _ us hl => match us, hl with | [_, _, _], _ => rfl) e_Reading_must
  have e_Reading_is_next : FnDen P w K mg base (2) (He.fAd K ("Reading", some "is_next")) fd_Reading_is_next ["self", "kind", "text"] A_is_next := d_Reading_is_next (k := 1) F_Reading_is_next (CallGM.mono c_Reading_look (by omega))
  have c_Reading_is_next : CallGM P w K mg base "Reading" "is_next" (2) 3 A_is_next [] := callM_of X G (c.t.d.fact 25 (f := .glo "Reading") rfl) (c.t.d.fact 26 (f := .cls "Reading") rfl) (c.t.d.fact 31 (f := .meth "Reading" "is_next") rfl) F_Reading_is_next (fun _ _ _ _ _ _ us hl => match us, hl with | [_, _, _], _ => rfl) e_Reading_is_next
  have den_Reading_expression : ∀ m : Nat, FnDen P w K mg base (4 + 3 * m) (He.fAd K ("Reading", some "expression")) fd_Reading_expression ["self", "deep"] (A_expr m) := by
    intro m
    induction m with
    | zero => exact FnDen.never
    | succ m ih =>
      have c_Reading_expression : CallGM P w K mg base "Reading" "expression" (4 + 3 * m + 0) 2 (A_expr m) [] := callMd_of X G (c.t.d.fact 25 (f := .glo "Reading") rfl) (c.t.d.fact 26 (f := .cls "Reading") rfl) (c.t.d.fact 40 (f := .meth "Reading" "expression") rfl) F_Reading_expression 2 1 (dd := []) (by simp) rfl (fun _ _ _ _ _ _ _ us its h1 h2 => match us, its, h1, h2 with | [_, _], [_], _, _ => ⟨_, rfl, rfl⟩) (fun _ => RepL.nil) ih
      have c_Reading_expression_d1 : CallGM P w K mg base "Reading" "expression" (4 + 3 * m + 0) 2 (A_expr m) [.int 1] := callMd_of X G (c.t.d.fact 25 (f := .glo "Reading") rfl) (c.t.d.fact 26 (f := .cls "Reading") rfl) (c.t.d.fact 40 (f := .meth "Reading" "expression") rfl) F_Reading_expression 1 0 (dd := [.int 1]) (by simp) rfl (fun _ _ _ _ _ _ _ us its h1 h2 => match us, its, h1, h2 with | [_], [_], _, _ => ⟨_, rfl, rfl⟩) (fun _ => (RepL.cons (by simp [Rep]) RepL.nil)) ih
      have e_Reading_of_two : FnDen P w K mg base (4 + 3 * m + 1) (He.fAd K ("Reading", some "of_two")) fd_Reading_of_two ["self", "deep"] (A_of_two (A_expr m)) := d_Reading_of_two (k := 4 + 3 * m + 0) F_Reading_of_two (CallGM.mono c_Reading_must (by omega)) (CallGM.mono c_Reading_expression (by omega)) (CallGM.mono c_Reading_look (by omega)) (CallG.mono c_refuse_unless (by omega)) (g_SIGNS_words X G c) (cf_Reading_spot X G c)
      have c_Reading_of_two : CallGM P w K mg base "Reading" "of_two" (4 + 3 * m + 1) 2 (A_of_two (A_expr m)) [] := callM_of X G (c.t.d.fact 25 (f := .glo "Reading") rfl) (c.t.d.fact 26 (f := .cls "Reading") rfl) (c.t.d.fact 39 (f := .meth "Reading" "of_two") rfl) F_Reading_of_two (fun _ _ _ _ _ _ us hl => match us, hl with | [_, _], _ => rfl) e_Reading_of_two
      have e_Reading_within : FnDen P w K mg base (4 + 3 * m + 1) (He.fAd K ("Reading", some "within")) fd_Reading_within ["self", "many", "deep"] (A_within (A_expr m)) := d_Reading_within (k := 4 + 3 * m + 0) F_Reading_within (CallGM.mono c_Reading_must (by omega)) (CallGM.mono c_Reading_expression (by omega)) (n_range X G c)
      have c_Reading_within : CallGM P w K mg base "Reading" "within" (4 + 3 * m + 1) 3 (A_within (A_expr m)) [] := callM_of X G (c.t.d.fact 25 (f := .glo "Reading") rfl) (c.t.d.fact 26 (f := .cls "Reading") rfl) (c.t.d.fact 36 (f := .meth "Reading" "within") rfl) F_Reading_within (fun _ _ _ _ _ _ us hl => match us, hl with | [_, _, _], _ => rfl) e_Reading_within
      have e_Reading_placed : FnDen P w K mg base (4 + 3 * m + 1) (He.fAd K ("Reading", some "placed")) fd_Reading_placed ["self", "deep"] (A_placed (A_expr m)) := d_Reading_placed (k := 4 + 3 * m + 0) F_Reading_placed (CallGM.mono c_Reading_must (by omega)) (CallGM.mono c_Reading_expression (by omega))
      have c_Reading_placed : CallGM P w K mg base "Reading" "placed" (4 + 3 * m + 1) 2 (A_placed (A_expr m)) [] := callM_of X G (c.t.d.fact 25 (f := .glo "Reading") rfl) (c.t.d.fact 26 (f := .cls "Reading") rfl) (c.t.d.fact 38 (f := .meth "Reading" "placed") rfl) F_Reading_placed (fun _ _ _ _ _ _ us hl => match us, hl with | [_, _], _ => rfl) e_Reading_placed
      have e_Reading_called : FnDen P w K mg base (4 + 3 * m + 2) (He.fAd K ("Reading", some "called")) fd_Reading_called ["self", "deep"] (A_called (A_expr m)) := d_Reading_called (k := 4 + 3 * m + 1) F_Reading_called (CallGM.mono c_Reading_take (by omega)) (CallGM.mono c_Reading_within (by omega)) (CallGM.mono c_Reading_is_next (by omega)) (CallGM.mono c_Reading_placed (by omega)) (n_tuple X G c) (g_ALONE X G c) (g_CALLED X G c)
      have c_Reading_called : CallGM P w K mg base "Reading" "called" (4 + 3 * m + 2) 2 (A_called (A_expr m)) [] := callM_of X G (c.t.d.fact 25 (f := .glo "Reading") rfl) (c.t.d.fact 26 (f := .cls "Reading") rfl) (c.t.d.fact 37 (f := .meth "Reading" "called") rfl) F_Reading_called (fun _ _ _ _ _ _ us hl => match us, hl with | [_, _], _ => rfl) e_Reading_called
      have e_Reading_expression : FnDen P w K mg base (4 + 3 * m + 3) (He.fAd K ("Reading", some "expression")) fd_Reading_expression ["self", "deep"] (A_expr (m + 1)) := d_Reading_expression (k := 4 + 3 * m + 2) F_Reading_expression (CallG.mono c_refuse_unless (by omega)) (CallGM.mono c_Reading_look (by omega)) (CallGM.mono c_Reading_counted (by omega)) (CallGM.mono c_Reading_take (by omega)) (CallGM.mono c_Reading_of_two (by omega)) (CallGM.mono c_Reading_called (by omega)) (g_DEEPEST X G c)
      exact e_Reading_expression.mono (by omega)
  have c_Reading_expression : CallGM P w K mg base "Reading" "expression" (31) 2 (A_expr 9) [] := callMd_of X G (c.t.d.fact 25 (f := .glo "Reading") rfl) (c.t.d.fact 26 (f := .cls "Reading") rfl) (c.t.d.fact 40 (f := .meth "Reading" "expression") rfl) F_Reading_expression 2 1 (dd := []) (by simp) rfl (fun _ _ _ _ _ _ _ us its h1 h2 => match us, its, h1, h2 with | [_, _], [_], _, _ => ⟨_, rfl, rfl⟩) (fun _ => RepL.nil) (den_Reading_expression 9)
  have c_Reading_expression_d1 : CallGM P w K mg base "Reading" "expression" (31) 2 (A_expr 9) [.int 1] := callMd_of X G (c.t.d.fact 25 (f := .glo "Reading") rfl) (c.t.d.fact 26 (f := .cls "Reading") rfl) (c.t.d.fact 40 (f := .meth "Reading" "expression") rfl) F_Reading_expression 1 0 (dd := [.int 1]) (by simp) rfl (fun _ _ _ _ _ _ _ us its h1 h2 => match us, its, h1, h2 with | [_], [_], _, _ => ⟨_, rfl, rfl⟩) (fun _ => (RepL.cons (by simp [Rep]) RepL.nil)) (den_Reading_expression 9)
  have e_read_expression : FnDen P w K mg base (33) (He.fAd K ("read_expression", none)) fd_read_expression ["text"] A_read := d_read_expression (k := 31) F_read_expression (CallGN.mono c_Reading_init__ (by omega)) (CallG.mono c_tokens (by omega)) (CallGM.mono c_Reading_expression_d1 (by omega)) (CallG.mono c_refuse_unless (by omega)) (CallG.mono c_is_expression (by omega)) (CallG.mono c_show_expression (by omega))
  have c_read_expression : CallG P w K mg base "read_expression" (33) 1 A_read [] := callG_of X G (c.t.d.fact 16 (f := .glo "read_expression") rfl) F_read_expression (fun _ _ _ _ _ _ us hl => match us, hl with | [_], _ => rfl) e_read_expression
  have e_law : FnDen P w K mg base 34 (He.ga K "law") fd_law ["_law_script"] A_law := d_law (k := 33) F_law (CallG.mono c_l_pen (by omega)) (CallG.mono c_l_expression (by omega)) (CallG.mono c_l_draw (by omega)) (CallG.mono c_l_great (by omega)) (CallG.mono c_is_expression (by omega)) (CallG.mono c_l_shown (by omega)) (CallG.mono c_show_expression (by omega)) (CallG.mono c_read_expression (by omega)) (n_range X G c) (n_len X G c) (n_repr X G c)
  exact e_law.mono (by omega)
end
end Dk75
open PySem PySem.W PySem.Calls PyProof.Rows
set_option maxHeartbeats 8000000 in
theorem PySem.Challenge.cw_numberedlines_k75_expressions_written_an_holds : PySem.Challenge.rw_numberedlines_k75_expressions_written_an.Holds := by
  w_on; o_law
  refine HandSHeadRun.head_any (r := OpenLaw.row PySem.Challenge.rw_numberedlines_k75_expressions_written_an) (q := view (OpenLaw.row PySem.Challenge.rw_numberedlines_k75_expressions_written_an).prog [50]) (H := Dk75.hk) (ob := Dk75.ob) (M := 8000) (loose := Dk75.names) (d := HandSHeadRun.topDef (OpenLaw.row PySem.Challenge.rw_numberedlines_k75_expressions_written_an).prog 50) (kwd := []) Dk75.ob_eq
    (by kernel_rfl) (fun s => by kernel_rfl) Dk75.run (by kernel_rfl) (by kernel_rfl) (by kernel_rfl) (by rfl) (by first | assumption | decide +kernel) (by decide +kernel) ⟨rfl, rfl, rfl, rfl, rfl, by decide +kernel⟩ ?hw ?hc
  case hw => w_witness2
  case hc =>
    refine Dn.walk_den (l := PySem.Challenge.rw_numberedlines_k75_expressions_written_an) (n := 63) (k := 70) (x := "_law_script") (F := Dk75.A_law) rfl (by decide) (by kernel_rfl) ⟨rfl, by decide, by decide⟩ ?F (fun ns hl hb => Dk75.law_true ns hl hb)
    intro w mg fa h Y G hmg0
    obtain ⟨K, KX, c⟩ := Y
    have hmg : mg ("law" : PySem.Str) = some (.ref fa) := by
      have e : (HandSHeadRun.topDef (OpenLaw.row PySem.Challenge.rw_numberedlines_k75_expressions_written_an).prog 50).name = ("law" : PySem.Str) := by kernel_rfl
      rw [← e]
      exact hmg0
    have e := hmg.symm.trans (He.glo_ok KX G (c.t.d.fact 24 (f := .glo "law") rfl))
    cases e
    obtain ⟨fd, hb, hF⟩ := Dk75.calls (P := (PySem.Challenge.rw_numberedlines_k75_expressions_written_an).prog) (w := w) KX G c
    exact ⟨K, fd, KX, hb, fun base _ _ => hF base⟩
