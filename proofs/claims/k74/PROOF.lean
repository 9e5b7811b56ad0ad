import PyProof.Rows.All
import Wide.All
import OpenK.AllK
import Wide.FinOn
import PySem.Challenge.RW_standsfast_k74_whole_machines_run_as_tol
import HandS.ForMost
import HandS.Wide
import HandS.TupMul
import HandS.IsInst
import HandS.Deep
import HandS.Flow
import HandS.CallSlots
import HandS.ExcOwn
import HandS.TupAny
import HandS.Strs
import HandS.Text
import HandS.Conv
import HandS.Iter
import HandS.Zip
import KE.GoesMore
import KE.GoesEnum
import HandS.Words
set_option Elab.async false
set_option linter.all false
/-! FD1: programs over deep data. What a combinator computes (no machine here). -/
namespace FD
noncomputable section
open PySem

abbrev D := PyData

/-- what a slot holds: data that never changes any more; a list of the frame's own; the law's deck; a deck just made -/
inductive SV where
  | fz (d : D)
  | ow (ds : List D)
  | deal
  | nd (row : D) (at_ : Int) (tot : D)

abbrev Sl := List (Option SV)
/-- the deck -/
structure G where
  row : D
  tot : D
  at_ : Int
structure Exn where
  cls : Str
inductive Out (α : Type) where
  | ok (a : α) (σ : Sl) (g : G)
  | exc (e : Exn) (σ : Sl) (g : G)
  | stuck
abbrev Ev (α : Type) := Sl → G → Out α
namespace Out
variable {α β : Type}
def bind (o : Out α) (k : α → Ev β) : Out β := match o with
  | .ok a σ g => k a σ g
  | .exc e σ g => .exc e σ g
  | .stuck => .stuck
@[simp] theorem bind_ok (a : α) (σ : Sl) (g : G) (k : α → Ev β) : (Out.ok a σ g).bind k = k a σ g := rfl
@[simp] theorem bind_exc (e : Exn) (σ : Sl) (g : G) (k : α → Ev β) : (Out.exc e σ g : Out α).bind k = .exc e σ g := rfl
@[simp] theorem bind_stuck (k : α → Ev β) : (Out.stuck : Out α).bind k = .stuck := rfl
end Out

def noX {α : Type} : Out α → Out α
  | .exc _ _ _ => .stuck
  | o => o
@[simp] theorem noX_ok {α : Type} (a : α) (σ : Sl) (g : G) : noX (Out.ok a σ g) = .ok a σ g := rfl
/-- what a call of a def ends in -/
inductive FOut where
  | ok (r : SV) (g : G)
  | exc (e : Exn) (g : G)
  | stuck
abbrev CT := Nat → List SV → G → FOut

def liftO {α : Type} (o : Option α) : Ev α := fun σ g => match o with
  | some a => .ok a σ g
  | none => .stuck
@[simp] theorem liftO_some {α : Type} (a : α) (σ : Sl) (g : G) : liftO (some a) σ g = .ok a σ g := rfl
@[simp] theorem liftO_none {α : Type} (σ : Sl) (g : G) : (liftO (none : Option α)) σ g = .stuck := rfl

/-! ### single operations -/
@[simp] def sInt (i : Int) : Option SV := some (.fz (.int i))
@[simp] def sBool (b : Bool) : Option SV := some (.fz (.bool b))

/-- a product of ints that the model lets pass -/
def MulOk (i j : Int) : Prop := i.natAbs.log2 + j.natAbs.log2 < 1000000
instance (i j : Int) : Decidable (MulOk i j) := by unfold MulOk; infer_instance
def DivOk (j : Int) : Prop := 0 < j ∧ j.natAbs.log2 < 9000
instance (j : Int) : Decidable (DivOk j) := by unfold DivOk; infer_instance
def PowOk (i j : Int) : Prop := 0 ≤ j ∧ j ≤ 1000000 ∧ i.natAbs < 2 ^ 64
noncomputable instance (i j : Int) : Decidable (PowOk i j) := Classical.propDecidable _

def pyAdd : D → D → Option SV
  | .int i, .int j => sInt (i + j)
  | .str x, .str y => if x.length + y.length ≤ 16777216 then some (.fz (.str (x ++ y))) else none
  | .tuple xs, .tuple ys => if xs.length + ys.length ≤ 16777216 then some (.fz (.tuple (xs ++ ys))) else none
  | .list xs, .list ys => if xs.length + ys.length ≤ 16777216 then some (.ow (xs ++ ys)) else none
  | _, _ => none
@[simp] def pySub : D → D → Option SV
  | .int i, .int j => sInt (i - j)
  | _, _ => none
/-- decided by no run: what the kernel never has to count -/
def Cl (p : Prop) : Prop := p
noncomputable instance (p : Prop) : Decidable (Cl p) := Classical.propDecidable _
def reps (xs : List D) (k : Nat) : List D := (List.replicate k xs).flatten
def pyMul : D → D → Option SV
  | .int i, .int j => if MulOk i j then sInt (i * j) else none
  | .tuple xs, .int k => if Cl (xs ≠ [] ∧ 2 ≤ k ∧ k ≤ 100000 ∧ xs.length * k.toNat ≤ 16777216) then some (.fz (.tuple (reps xs k.toNat))) else none
  | .list xs, .int k => if Cl (-(2 ^ 62) ≤ k ∧ k < 2 ^ 62 ∧ xs.length * k.toNat ≤ 16777216) then some (.ow (reps xs k.toNat)) else none
  | _, _ => none
def pyFloorDiv : D → D → Option SV
  | .int i, .int j => if DivOk j then sInt (i / j) else none
  | _, _ => none
def pyMod : D → D → Option SV
  | .int i, .int j => if j = 0 then none else sInt (i.fmod j)
  | _, _ => none
def pyPow : D → D → Option SV
  | .int i, .int j => if PowOk i j then sInt (i ^ j.toNat) else none
  | _, _ => none
@[simp] def pyNeg : D → Option SV
  | .int i => sInt (-i)
  | _ => none
/-- the place of an index -/
def ixN (n : Nat) (i : Int) : Option Nat := if 0 ≤ i then (if i < n then some i.toNat else none) else if -(n : Int) ≤ i then some (i + n).toNat else none
def atI {α : Type} (xs : List α) (i : Int) : Option α := (ixN xs.length i).bind fun j => xs[j]?
def pyIx : D → D → Option SV
  | .list xs, .int i => (atI xs i).map .fz
  | .tuple xs, .int i => (atI xs i).map .fz
  | .str x, .int i => if x.length ≤ 16777216 then (atI x.cps.toList i).map fun c => .fz (.str ⟨#[c]⟩) else none
  | _, _ => none
/-- a slice's bound -/
def sIx (n d : Nat) : Option Int → Nat
  | none => d
  | some v => if v < 0 then (v + n).toNat else min v.toNat n
def cut {α : Type} (xs : List α) (lo hi : Option Int) : List α := (xs.drop (sIx xs.length 0 lo)).take (sIx xs.length xs.length hi - sIx xs.length 0 lo)
def pySlice : D → Option Int → Option Int → Option SV
  | .list xs, lo, hi => some (.ow (cut xs lo hi))
  | .tuple xs, lo, hi => some (.fz (.tuple (cut xs lo hi)))
  | .str x, lo, hi => if x.length ≤ 16777216 then some (.fz (.str ⟨(cut x.cps.toList lo hi).toArray⟩)) else none
  | _, _, _ => none
def pyLen : D → Option SV
  | .list xs => sInt xs.length
  | .tuple xs => sInt xs.length
  | .str x => if x.length ≤ 16777216 then sInt x.length else none
  | _ => none
def pyAbs : D → Option SV
  | .int i => sInt (if i < 0 then -i else i)
  | _ => none
def pyInt : D → Option SV
  | .int i => sInt i
  | .bool b => sInt (if b then 1 else 0)
  | _ => none
def pyStr : D → Option SV
  | .int i => if i.natAbs.log2 < 1920 then some (.fz (.str (toString i))) else none
  | _ => none
def intsOf : List D → Option (List Int)
  | [] => some []
  | .int i :: r => (intsOf r).map (i :: ·)
  | _ :: _ => none
def pySum : D → Option SV
  | .list xs => (intsOf xs).map fun ns => .fz (.int ns.sum)
  | _ => none
def pyTuple : D → Option SV
  | .list xs => some (.fz (.tuple xs))
  | .tuple xs => some (.fz (.tuple xs))
  | _ => none
def pyList : D → Option SV
  | .list xs => some (.ow xs)
  | .tuple xs => some (.ow xs)
  | _ => none
def pyMin2 : D → D → Option SV
  | .int i, .int j => sInt (if j < i then j else i)
  | _, _ => none
def pyMax2 : D → D → Option SV
  | .int i, .int j => sInt (if j > i then j else i)
  | _, _ => none
/-- two data that == compares without end of the room -/
def eqOk : D → D → Bool
  | .int _, .int _ => true
  | .str _, .str _ => true
  | .bool _, .bool _ => true
  | .none, .none => true
  | d, e => SeqAt.shaped d && SeqAt.shaped e
def pyEq (d e : D) : Option Bool := if eqOk d e then some (PyData.eqv d e) else none
def pyNe (d e : D) : Option Bool := if eqOk d e then some (!PyData.eqv d e) else none
def pyLt : D → D → Option Bool
  | .int i, .int j => some (decide (i < j))
  | _, _ => none
def pyLe : D → D → Option Bool
  | .int i, .int j => some (decide (i ≤ j))
  | _, _ => none
def pyGt : D → D → Option Bool
  | .int i, .int j => some (decide (j < i))
  | _, _ => none
def pyGe : D → D → Option Bool
  | .int i, .int j => some (decide (j ≤ i))
  | _, _ => none
def pyIs : D → D → Option Bool
  | .none, .none => some true
  | _, .none => some false
  | _, _ => none
def pyIsNot : D → D → Option Bool
  | .none, .none => some false
  | _, .none => some true
  | _, _ => none
def pyIn : D → D → Option Bool
  | d, .list ds => if SeqAt.shaped d && SeqAt.shaped (.list ds) then some (ds.any fun z => PyData.eqv z d) else none
  | d, .tuple ds => if SeqAt.shaped d && SeqAt.shaped (.tuple ds) then some (ds.any fun z => PyData.eqv z d) else none
  | .str i, .str j => some (!(Builtin.Str.occurrences j i 0 j.length 1).isEmpty)
  | _, _ => none
def pyNotIn (d e : D) : Option Bool := (pyIn d e).map (!·)
def pyTruth : D → Option Bool
  | .none => some false
  | .bool b => some b
  | .int i => some (i != 0)
  | .str y => if y.length ≤ 16777216 then some ((y.length : Int) != 0) else none
  | .list xs => some (!xs.isEmpty)
  | .tuple xs => some (!xs.isEmpty)
  | _ => none
/-- isinstance against a built-in class -/
inductive BT where
  | int | bool | str | list | tuple
  deriving DecidableEq
def BT.nm : BT → String
  | .int => "int"
  | .bool => "bool"
  | .str => "str"
  | .list => "list"
  | .tuple => "tuple"
def pyIsI : BT → D → Option Bool
  | _, .none => some false
  | t, .bool _ => some (match t with | .bool => true | .int => true | _ => false)
  | t, .int _ => some (match t with | .int => true | _ => false)
  | t, .str _ => some (match t with | .str => true | _ => false)
  | t, .list _ => some (match t with | .list => true | _ => false)
  | t, .tuple _ => some (match t with | .tuple => true | _ => false)
  | _, .dict _ => none
/-- xs.index(x): the first place of an equal one -/
def firstIx (d : D) : List D → Option Nat
  | [] => none
  | z :: r => if PyData.eqv z d then some 0 else (firstIx d r).map (· + 1)
def pyIndex : D → D → Option SV
  | .list ds, d => if SeqAt.shaped d && SeqAt.shaped (.list ds) then (firstIx d ds).map fun j => .fz (.int (j : Nat)) else none
  | _, _ => none
/-- .. of a constant tuple -/
def pyIndexK : D → D → Option SV
  | .tuple ds, d => if SeqAt.shaped d && SeqAt.shaped (.tuple ds) then (firstIx d ds).map fun j => .fz (.int (j : Nat)) else none
  | _, _ => none
/-- sorted of ints, below 64 -/
def insI (x : Int) : List Int → List Int
  | [] => [x]
  | y :: r => if x ≤ y then x :: y :: r else y :: insI x r
def sortI : List Int → List Int
  | [] => []
  | x :: r => insI x (sortI r)
def pySorted : D → Option SV
  | .list xs => (intsOf xs).bind fun ns => if ns.length < 64 then some (.ow ((sortI ns).map .int)) else none
  | .tuple xs => (intsOf xs).bind fun ns => if ns.length < 64 then some (.ow ((sortI ns).map .int)) else none
  | _ => none

/-! ### expressions -/
section
variable {α β : Type}
@[simp] def dOf : SV → Option D
  | .fz d => some d
  | .ow ds => some (.list ds)
  | _ => none
/-- as data that never changes any more -/
@[simp] def cD (f : Ev SV) : Ev D := fun σ g => (f σ g).bind fun v => liftO (dOf v)
/-- a name, looked at -/
@[simp] def cVP (i : Nat) : Ev D := fun σ g => match σ[i]? with
  | some (some (.fz d)) => .ok d σ g
  | some (some (.ow ds)) => .ok (.list ds) σ g
  | _ => .stuck
/-- a name, handed on: its list is the frame's own no more -/
@[simp] def cVE (i : Nat) : Ev SV := fun σ g => match σ[i]? with
  | some (some (.fz d)) => .ok (.fz d) σ g
  | some (some (.ow ds)) => .ok (.fz (.list ds)) (σ.set i (some (.fz (.list ds)))) g
  | some (some .deal) => .ok .deal σ g
  | _ => .stuck
/-- a name whose list leaves with the frame (return) -/
@[simp] def cVR (i : Nat) : Ev SV := fun σ g => match σ[i]? with
  | some (some (.fz d)) => .ok (.fz d) σ g
  | some (some (.ow ds)) => .ok (.ow ds) (σ.set i none) g
  | _ => .stuck
@[simp] def cK (d : D) : Ev SV := fun σ g => .ok (.fz d) σ g
@[simp] def cB (f : Ev Bool) : Ev SV := fun σ g => (f σ g).bind fun b σ g => .ok (.fz (.bool b)) σ g
@[simp] def c1 (op : D → Option SV) (f : Ev D) : Ev SV := fun σ g => (f σ g).bind fun a => liftO (op a)
@[simp] def c2 (op : D → D → Option SV) (f1 f2 : Ev D) : Ev SV := fun σ g => (f1 σ g).bind fun a σ g => (f2 σ g).bind fun b => liftO (op a b)
@[simp] def cCmp (op : D → D → Option Bool) (f1 f2 : Ev D) : Ev Bool := fun σ g => (f1 σ g).bind fun a σ g => (f2 σ g).bind fun b => liftO (op a b)
/-- a op b op' c -/
@[simp] def cChain (op op' : D → D → Option Bool) (f1 f2 f3 : Ev D) : Ev Bool := fun σ g => (f1 σ g).bind fun a σ g => (f2 σ g).bind fun b σ g => (liftO (op a b) σ g).bind fun p σ g =>
  if p = true then (f3 σ g).bind fun c => liftO (op' b c) else .ok false σ g
@[simp] def cAnd (f1 f2 : Ev Bool) : Ev Bool := fun σ g => (f1 σ g).bind fun p σ g => if p = true then f2 σ g else .ok false σ g
@[simp] def cOr (f1 f2 : Ev Bool) : Ev Bool := fun σ g => (f1 σ g).bind fun p σ g => if p = true then .ok true σ g else f2 σ g
@[simp] def cNot (f : Ev Bool) : Ev Bool := fun σ g => (f σ g).bind fun p σ g => .ok (!p) σ g
@[simp] def cTru (f : Ev D) : Ev Bool := fun σ g => (f σ g).bind fun a => liftO (pyTruth a)
@[simp] def cIte (t : Ev Bool) (f1 f2 : Ev α) : Ev α := fun σ g => (t σ g).bind fun p σ g => if p = true then f1 σ g else f2 σ g
@[simp] def cIsI (T : BT) (f : Ev D) : Ev Bool := fun σ g => (f σ g).bind fun a => liftO (pyIsI T a)
/-- an optional bound of a slice -/
@[simp] def cNoB : Ev (Option Int) := fun σ g => .ok none σ g
@[simp] def intOf : D → Option Int
  | .int i => some i
  | _ => none
@[simp] def cBd (f : Ev D) : Ev (Option Int) := fun σ g => (f σ g).bind fun a => liftO ((intOf a).map some)
@[simp] def cSlice (f : Ev D) (lo hi : Ev (Option Int)) : Ev SV := fun σ g => (f σ g).bind fun a σ g => (lo σ g).bind fun l σ g => (hi σ g).bind fun h => liftO (pySlice a l h)
/-- several, from the left -/
@[simp] def cNil : Ev (List D) := fun σ g => .ok [] σ g
@[simp] def cCons (f : Ev D) (r : Ev (List D)) : Ev (List D) := fun σ g => (f σ g).bind fun a σ g => (r σ g).bind fun as σ g => .ok (a :: as) σ g
@[simp] def cTup (r : Ev (List D)) : Ev SV := fun σ g => (r σ g).bind fun as => liftO (if as.length ≤ 16777216 then some (.fz (.tuple as)) else none)
@[simp] def cLst (r : Ev (List D)) : Ev SV := fun σ g => (r σ g).bind fun as => liftO (if as.length ≤ 16777216 then some (.ow as) else none)
/-- the deck: its row, its total, its place -/
@[simp] def cVIx (i : Nat) (f : Ev D) : Ev SV := fun σ g => match σ[i]? with
  | some (some .deal) => (f σ g).bind fun b σ g => match b with
    | .int 0 => .ok (.fz g.row) σ g
    | .int 2 => .ok (.fz g.tot) σ g
    | _ => .stuck
  | _ => c2 pyIx (cVP i) f σ g
@[simp] def cV10 (i : Nat) : Ev SV := fun σ g => match σ[i]? with
  | some (some .deal) => .ok (.fz (.int g.at_)) σ g
  | _ => c2 pyIx (cD (c2 pyIx (cVP i) (cD (cK (.int 1))))) (cD (cK (.int 0))) σ g
/-- arguments of a def -/
@[simp] def argOk : SV → Option SV
  | .fz d => some (.fz d)
  | .ow ds => some (.fz (.list ds))
  | .deal => some .deal
  | .nd _ _ _ => none
@[simp] def cANil : Ev (List SV) := fun σ g => .ok [] σ g
@[simp] def cACons (f : Ev SV) (r : Ev (List SV)) : Ev (List SV) := fun σ g => (f σ g).bind fun a σ g => (liftO (argOk a) σ g).bind fun a σ g => (r σ g).bind fun as σ g => .ok (a :: as) σ g
@[simp] def cCall (ct : CT) (k : Nat) (r : Ev (List SV)) : Ev SV := fun σ g => (r σ g).bind fun as σ g => match ct k as g with
  | .ok v g' => .ok v σ g'
  | .exc e g' => .exc e σ g'
  | .stuck => .stuck
/-! ### what is walked -/
@[simp] def seqOf : D → Option (List D)
  | .list xs => some xs
  | .tuple xs => some xs
  | .str x => if x.length ≤ 16777216 then some (x.cps.toList.map fun c => .str ⟨#[c]⟩) else none
  | _ => none
@[simp] def lseqOf : D → Option (List D)
  | .list xs => some xs
  | .tuple xs => some xs
  | _ => none
def rngD (lo hi : Int) : List D := (List.range (hi - lo).toNat).map fun i => .int (lo + (i : Nat))
def Rg (i : Int) : Prop := -(2 ^ 62) ≤ i ∧ i < 2 ^ 62
noncomputable instance (i : Int) : Decidable (Rg i) := Classical.propDecidable _
def rng1 : D → Option (List D)
  | .int n => if Rg n then some (rngD 0 n) else none
  | _ => none
def rng2 : D → D → Option (List D)
  | .int m, .int n => if Rg m ∧ Rg n then some (rngD m n) else none
  | _, _ => none
def enumD (n : Nat) : List D → List D
  | [] => []
  | x :: r => .tuple [.int (n : Nat), x] :: enumD (n + 1) r
def zipD : List D → List D → List D
  | x :: r, y :: s => .tuple [x, y] :: zipD r s
  | _, _ => []
@[simp] def iSeq (f : Ev D) : Ev (List D) := fun σ g => (f σ g).bind fun a => liftO (seqOf a)
@[simp] def iR1 (f : Ev D) : Ev (List D) := fun σ g => (f σ g).bind fun a => liftO (rng1 a)
@[simp] def iR2 (f1 f2 : Ev D) : Ev (List D) := fun σ g => (f1 σ g).bind fun a σ g => (f2 σ g).bind fun b => liftO (rng2 a b)
@[simp] def iEnum (f : Ev D) : Ev (List D) := fun σ g => (f σ g).bind fun a => liftO ((lseqOf a).map (enumD 0))
def zipK : D → D → Option (List D)
  | .list xs, .list ys => some (zipD xs ys)
  | .tuple xs, .tuple ys => some (zipD xs ys)
  | _, _ => none
@[simp] def iZip (f1 f2 : Ev D) : Ev (List D) := fun σ g => (f1 σ g).bind fun a σ g => (f2 σ g).bind fun b => liftO (zipK a b)

/-! ### targets -/
abbrev TgF := D → Ev Unit
@[simp] def gNm (i : Nat) : TgF := fun d σ g => .ok () (σ.set i (some (.fz d))) g
@[simp] def gTp (n : Nat) (ts : List D → Ev Unit) : TgF := fun d σ g => match d with
  | .tuple xs => if xs.length = n then ts xs σ g else .stuck
  | _ => .stuck
@[simp] def gN : List D → Ev Unit := fun xs σ g => match xs with
  | [] => .ok () σ g
  | _ => .stuck
@[simp] def gC (t : TgF) (r : List D → Ev Unit) : List D → Ev Unit := fun xs σ g => match xs with
  | [] => .stuck
  | x :: xs => (t x σ g).bind fun _ => r xs

/-! ### comprehensions -/
@[simp] def wipeS (σ : Sl) : List Nat → Sl
  | [] => σ
  | v :: vs => (wipeS σ vs).set v none
/-- no slot of vs holds a list of the frame's own, or the deck -/
@[simp] def idleS (σ : Sl) : List Nat → Bool
  | [] => true
  | v :: vs => (match σ[v]? with
    | some (some (.fz _)) => true
    | some none => true
    | _ => false) && idleS σ vs
/-- the outer slots again -/
@[simp] def backS (σ0 σ : Sl) : List Nat → Sl
  | [] => σ
  | v :: vs => match σ0[v]? with
    | some o => (backS σ0 σ vs).set v o
    | none => backS σ0 σ vs
def compL (tg : TgF) (t : Ev Bool) (f : Ev D) (vs : List Nat) : List D → List D → Ev (List D)
  | [], acc, σ, g => .ok acc σ g
  | x :: xs, acc, σ, g => (tg x σ g).bind fun _ σ1 g1 => (t σ1 g1).bind fun b σ2 g2 =>
      if b = true then (f σ2 g2).bind fun y σ3 g3 => if acc.length < 16777216 then compL tg t f vs xs (acc ++ [y]) (wipeS σ3 vs) g3 else .stuck
      else compL tg t f vs xs acc (wipeS σ2 vs) g2
@[simp] def cYes : Ev Bool := fun σ g => .ok true σ g
def cLc (it : Ev (List D)) (vs : List Nat) (tg : TgF) (t : Ev Bool) (f : Ev D) : Ev SV := fun σ g => (it σ g).bind fun xs σ1 g1 =>
  if idleS σ1 vs = true then noX ((compL tg t f vs xs [] (wipeS σ1 vs) g1).bind fun ys σ2 g2 => .ok (.ow ys) (backS σ1 σ2 vs) g2) else .stuck

/-! ### statements -/
inductive Fl where
  | nx | bk | ct | rt (r : SV)
@[simp] def sPass : Ev Fl := fun σ g => .ok .nx σ g
@[simp] def sBrk : Ev Fl := fun σ g => .ok .bk σ g
@[simp] def sCnt : Ev Fl := fun σ g => .ok .ct σ g
@[simp] def sSeq (s t : Ev Fl) : Ev Fl := fun σ g => (s σ g).bind fun f σ g => match f with
  | .nx => t σ g
  | f => .ok f σ g
@[simp] def sRet (f : Ev SV) : Ev Fl := fun σ g => (f σ g).bind fun v σ g => match v with
  | .deal => .stuck
  | v => .ok (.rt v) σ g
@[simp] def sRetN : Ev Fl := fun σ g => .ok (.rt (.fz .none)) σ g
/-- return [row, [at], total] -/
@[simp] def sRetDeal (f1 f2 f3 : Ev D) : Ev Fl := fun σ g => (f1 σ g).bind fun r σ g => (f2 σ g).bind fun a σ g => match a with
  | .int i => (noX (f3 σ g)).bind fun t σ g => .ok (.rt (.nd r i t)) σ g
  | _ => .stuck
def svSet : SV → Option SV
  | .fz d => some (.fz d)
  | .ow ds => some (.ow ds)
  | _ => none
/-- x = e -/
@[simp] def sAsg (i : Nat) (f : Ev SV) : Ev Fl := fun σ g => (f σ g).bind fun v σ g => match v with
  | .fz d => .ok .nx (σ.set i (some (.fz d))) g
  | .ow ds => .ok .nx (σ.set i (some (.ow ds))) g
  | _ => .stuck
/-- no slot holds the deck -/
@[simp] def noDeal : Sl → Bool
  | [] => true
  | some .deal :: _ => false
  | _ :: r => noDeal r
/-- x = e or, in the law itself, deal = _law_deal(script) -/
@[simp] def sAsgN (i : Nat) (f : Ev SV) : Ev Fl := fun σ g => (f σ g).bind fun v σ g => match v with
  | .fz d => .ok .nx (σ.set i (some (.fz d))) g
  | .ow ds => .ok .nx (σ.set i (some (.ow ds))) g
  | .nd r a t => if noDeal σ = true then .ok .nx (σ.set i (some .deal)) ⟨r, t, a⟩ else .stuck
  | .deal => .stuck
/-- (a, b) = e -/
@[simp] def sUnp (tg : TgF) (f : Ev D) : Ev Fl := fun σ g => (f σ g).bind fun d σ g => (tg d σ g).bind fun _ σ g => .ok .nx σ g
/-- a, b = x, y -/
@[simp] def sPar (i j : Nat) (f1 f2 : Ev D) : Ev Fl := fun σ g => (f1 σ g).bind fun a σ g => (f2 σ g).bind fun b σ g => .ok .nx ((σ.set i (some (.fz a))).set j (some (.fz b))) g
/-- x op= e -/
@[simp] def sAug (op : D → D → Option SV) (i : Nat) (f : Ev D) : Ev Fl := fun σ g => match σ[i]? with
  | some (some (.fz d)) => (f σ g).bind fun b σ g => match op d b with
    | some (.fz r) => .ok .nx (σ.set i (some (.fz r))) g
    | _ => .stuck
  | _ => .stuck
def setAt (xs : List D) (i : Int) (d : D) : Option (List D) := (ixN xs.length i).map fun j => xs.set j d
@[simp] def isOw : Option (Option SV) → Bool
  | some (some (.ow _)) => true
  | _ => false
/-- x[k] = e, x a list of the frame's own -/
@[simp] def sSetIx (i : Nat) (fk fe : Ev D) : Ev Fl := fun σ g => (fe σ g).bind fun d σ g => if isOw σ[i]? = true then (fk σ g).bind fun k σ g => match σ[i]?, k with
  | some (some (.ow ds)), .int k => match setAt ds k d with
    | some es => .ok .nx (σ.set i (some (.ow es))) g
    | none => .stuck
  | _, _ => .stuck
  else .stuck
/-- deal[1][0] = e -/
@[simp] def sSetDeal (i : Nat) (fe : Ev D) : Ev Fl := fun σ g => (fe σ g).bind fun d σ g => match σ[i]?, d with
  | some (some .deal), .int k => .ok .nx σ { g with at_ := k }
  | _, _ => .stuck
/-- x.append(e) -/
@[simp] def sApp (i : Nat) (fe : Ev D) : Ev Fl := fun σ g => if isOw σ[i]? = true then (fe σ g).bind fun d σ g => match σ[i]? with
  | some (some (.ow ds)) => if ds.length < 16777216 then .ok .nx (σ.set i (some (.ow (ds ++ [d])))) g else .stuck
  | _ => .stuck
  else .stuck
def sIf (t : Ev Bool) (s1 s2 : Ev Fl) : Ev Fl := cIte t s1 s2
/-- names that a turn has stored first are forgotten -/
@[simp] def mask : Sl → Sl → Sl
  | none :: r0, _ :: r => none :: mask r0 r
  | some _ :: r0, o :: r => o :: mask r0 r
  | _, r => r
def forL (tg : TgF) (b : Ev Fl) : List D → Ev Fl
  | [], σ, g => .ok .nx σ g
  | x :: xs, σ, g => (tg x σ g).bind fun _ σ1 g1 => (b σ1 g1).bind fun f σ2 g2 => match f with
    | .nx => forL tg b xs (mask σ σ2) g2
    | .ct => forL tg b xs (mask σ σ2) g2
    | .bk => .ok .nx (mask σ σ2) g2
    | .rt r => .ok (.rt r) σ2 g2
@[simp] def sFor (it : Ev (List D)) (tg : TgF) (b : Ev Fl) : Ev Fl := fun σ g => (it σ g).bind fun xs σ g => forL tg b xs σ g
def whileL (t : Ev Bool) (b : Ev Fl) : Nat → Ev Fl
  | 0, _, _ => .stuck
  | n + 1, σ, g => (t σ g).bind fun p σ1 g1 => if p = true then (b σ1 g1).bind fun f σ2 g2 => match f with
      | .nx => whileL t b n (mask σ σ2) g2
      | .ct => whileL t b n (mask σ σ2) g2
      | .bk => .ok .nx (mask σ σ2) g2
      | .rt r => .ok (.rt r) σ2 g2
    else .ok .nx σ1 g1
/-- a def's body from its arguments -/
@[simp] def startS (n : Nat) (as : List SV) : Sl := as.map some ++ List.replicate (n - as.length) none
def runF (n : Nat) (b : Ev Fl) (as : List SV) (g : G) : FOut := match b (startS n as) g with
  | .ok (.rt .deal) _ _ => .stuck
  | .ok (.rt r) _ g' => .ok r g'
  | .ok .nx _ g' => .ok (.fz .none) g'
  | .ok _ _ _ => .stuck
  | .exc e _ g' => .exc e g'
  | .stuck => .stuck
/-- a def: how many arguments, how many slots, its body by the calls -/
structure Fn where
  ar : Nat
  n : Nat
  body : CT → Nat → Ev Fl
/-- calls to a depth; w: how many turns a while has at most -/
def callN (w : Nat) (T : List Fn) : Nat → CT
  | 0 => fun _ _ _ => .stuck
  | k + 1 => fun i as g => match T[i]? with
    | some f => if as.length = f.ar then runF f.n (f.body (callN w T k) w) as g else .stuck
    | none => .stuck
end
end
end FD
set_option maxRecDepth 100000
set_option autoImplicit false
set_option maxHeartbeats 2000000
/-! FD2: how deep data lies in the layer's heap; what a step keeps. -/
namespace FD
noncomputable section
open PySem
open L2 (Hp HO V upd upd_same upd_ne ne_of_none Rd SqL SqT Vals RelV VK TE TT TA TS TG TGs St XK Cx PE PT PW PA PS PSs PG PGs PI)

mutual
inductive Dq (K : PySem.W.Frag) (H : Hp) : V → D → Prop
  | non : Dq K H .non .none
  | bl (b : Bool) : Dq K H (.bl b) (.bool b)
  | int (i : Int) : Dq K H (.int i) (.int i)
  | str (x : Str) : Dq K H (.str x) (.str x)
  | lst {a : Addr} {xs : List V} {ds : List D} : Rd H a (.lst xs) → DqAll K H xs ds → Dq K H (.ref a) (.list ds)
  | tup {a : Addr} {xs : List V} {ds : List D} : SqT K H a xs → DqAll K H xs ds → Dq K H (.ref a) (.tuple ds)
inductive DqAll (K : PySem.W.Frag) (H : Hp) : List V → List D → Prop
  | nil : DqAll K H [] []
  | cons {v : V} {vs : List V} {d : D} {ds : List D} : Dq K H v d → DqAll K H vs ds → DqAll K H (v :: vs) (d :: ds)
end

/-- what stood stands -/
def Sub (H H' : Hp) : Prop := ∀ a o, H a = some o → H' a = some o
theorem Sub.refl (H : Hp) : Sub H H := fun _ _ h => h
theorem Sub.trans {H H1 H2 : Hp} (a : Sub H H1) (b : Sub H1 H2) : Sub H H2 := fun x o h => b x o (a x o h)
theorem Sub.new {H : Hp} {p : Addr} {o : HO} (h : H p = none) : Sub H (upd H p o) := fun a u e => by
  rw [upd_ne (ne_of_none e h)]
  exact e
theorem Sub.upd2 {F H : Hp} {p : Addr} {o : HO} (h : Sub F H) (hn : F p = none) : Sub F (upd H p o) := fun a u e => by
  rw [upd_ne (ne_of_none e hn)]
  exact h a u e
theorem Sub.both {F H : Hp} {p : Addr} {o : HO} (h : Sub F H) : Sub (upd F p o) (upd H p o) := fun a u e => by
  by_cases q : a = p
  · subst q
    rw [upd_same] at e ⊢
    exact e
  · rw [upd_ne q] at e ⊢
    exact h a u e
theorem Sub.to {F H : Hp} {p : Addr} {o : HO} (h : Sub F H) (e : H p = some o) : Sub (upd F p o) H := fun a u q => by
  by_cases z : a = p
  · subst z
    rw [upd_same] at q
    cases q
    exact e
  · rw [upd_ne z] at q
    exact h a u q
theorem Sub.free {H H' : Hp} (e : Sub H H') {l : Addr} (h : H' l = Option.none) : H l = Option.none := by
  cases q : H l with
  | none => rfl
  | some o =>
    rw [e l o q] at h
    cases h
theorem Sub.rd {H H' : Hp} (e : Sub H H') {a : Addr} {u : HO} (h : Rd H a u) : Rd H' a u := by
  rcases h with h | ⟨o, h⟩
  · exact .inl (e _ _ h)
  · exact .inr ⟨o, e _ _ h⟩
theorem Sub.sqt {K : PySem.W.Frag} {H H' : Hp} (e : Sub H H') {a : Addr} {xs : List V} (h : SqT K H a xs) : SqT K H' a xs := by
  rcases h with h | h
  · exact .inl (e.rd h)
  · exact .inr h
mutual
theorem Dq.up {K : PySem.W.Frag} {H H' : Hp} (e : Sub H H') : ∀ {v : V} (d : D), Dq K H v d → Dq K H' v d
  | _, _, .non => .non
  | _, _, .bl b => .bl b
  | _, _, .int i => .int i
  | _, _, .str x => .str x
  | _, .list ds, .lst h a => .lst (e.rd h) (DqAll.up e ds a)
  | _, .tuple ds, .tup h a => .tup (e.sqt h) (DqAll.up e ds a)
theorem DqAll.up {K : PySem.W.Frag} {H H' : Hp} (e : Sub H H') : ∀ {vs : List V} (ds : List D), DqAll K H vs ds → DqAll K H' vs ds
  | _, [], .nil => .nil
  | _, d :: ds, .cons a b => .cons (Dq.up e d a) (DqAll.up e ds b)
end
mutual
theorem Dq.dp {K : PySem.W.Frag} {H : Hp} : ∀ {v : V} (d : D), Dq K H v d → L2.Dp K H v d
  | _, _, .non => .non
  | _, _, .bl b => .bl b
  | _, _, .int i => .int i
  | _, _, .str x => .str x
  | _, .list ds, .lst h a => .lst (.inl h) (DqAll.dp ds a)
  | _, .tuple ds, .tup h a => .tup h (DqAll.dp ds a)
theorem DqAll.dp {K : PySem.W.Frag} {H : Hp} : ∀ {vs : List V} (ds : List D), DqAll K H vs ds → L2.DpAll K H vs ds
  | _, [], .nil => .nil
  | _, d :: ds, .cons a b => .cons (Dq.dp d a) (DqAll.dp ds b)
end
section
variable {K : PySem.W.Frag} {H : Hp}
theorem DqAll.len : ∀ {vs : List V} {ds : List D}, DqAll K H vs ds → vs.length = ds.length
  | _, _, .nil => rfl
  | _, _, .cons _ b => by rw [List.length_cons, List.length_cons, DqAll.len b]
theorem DqAll.get : ∀ {vs : List V} {ds : List D} {i : Nat} {d : D}, DqAll K H vs ds → ds[i]? = some d → ∃ v, vs[i]? = some v ∧ Dq K H v d
  | _, _, _, _, .nil, e => by simp at e
  | _, _, 0, _, .cons a _, e => by
    simp only [List.getElem?_cons_zero, Option.some.injEq] at e
    subst e
    exact ⟨_, rfl, a⟩
  | _, _, i + 1, d, .cons _ b, e => by
    obtain ⟨v, h1, h2⟩ := DqAll.get (i := i) (d := d) b (by simpa using e)
    exact ⟨v, by simpa using h1, h2⟩
theorem DqAll.getV : ∀ {vs : List V} {ds : List D} {i : Nat} {v : V}, DqAll K H vs ds → vs[i]? = some v → ∃ d, ds[i]? = some d ∧ Dq K H v d
  | _, _, _, _, .nil, e => by simp at e
  | _, _, 0, _, .cons a _, e => by
    simp only [List.getElem?_cons_zero, Option.some.injEq] at e
    subst e
    exact ⟨_, rfl, a⟩
  | _, _, i + 1, d, .cons _ b, e => by
    obtain ⟨v, h1, h2⟩ := DqAll.getV (i := i) (v := d) b (by simpa using e)
    exact ⟨v, by simpa using h1, h2⟩
theorem DqAll.app : ∀ {vs ws : List V} {ds es : List D}, DqAll K H vs ds → DqAll K H ws es → DqAll K H (vs ++ ws) (ds ++ es)
  | _, _, _, _, .nil, h => h
  | _, _, _, _, .cons a b, h => .cons a (DqAll.app b h)
theorem DqAll.one {v : V} {d : D} (h : Dq K H v d) : DqAll K H [v] [d] := .cons h .nil
theorem DqAll.take : ∀ {vs : List V} {ds : List D} (n : Nat), DqAll K H vs ds → DqAll K H (vs.take n) (ds.take n)
  | _, _, 0, _ => .nil
  | _, _, _ + 1, .nil => .nil
  | _, _, n + 1, .cons a b => .cons a (DqAll.take n b)
theorem DqAll.drop : ∀ {vs : List V} {ds : List D} (n : Nat), DqAll K H vs ds → DqAll K H (vs.drop n) (ds.drop n)
  | _, _, 0, h => h
  | _, _, _ + 1, .nil => .nil
  | _, _, n + 1, .cons _ b => DqAll.drop n b
theorem DqAll.set {v : V} {d : D} (h : Dq K H v d) : ∀ {vs : List V} {ds : List D} (n : Nat), DqAll K H vs ds → DqAll K H (vs.set n v) (ds.set n d)
  | _, _, _, .nil => .nil
  | _, _, 0, .cons _ b => .cons h b
  | _, _, n + 1, .cons a b => .cons a (DqAll.set h n b)
theorem DqAll.rep {vs : List V} {ds : List D} (h : DqAll K H vs ds) : ∀ k : Nat, DqAll K H (List.replicate k vs).flatten (List.replicate k ds).flatten
  | 0 => .nil
  | k + 1 => by
    rw [List.replicate_succ, List.replicate_succ, List.flatten_cons, List.flatten_cons]
    exact h.app (DqAll.rep h k)
theorem DqAll.nil_iff {vs : List V} {ds : List D} (h : DqAll K H vs ds) : vs = [] ↔ ds = [] := by
  cases h with
  | nil => simp
  | cons _ _ => simp
theorem DqAll.ints : ∀ {vs : List V} {ds : List D} {ns : List Int}, DqAll K H vs ds → intsOf ds = some ns → vs = ns.map V.int
  | _, _, ns, .nil, e => by
    simp only [intsOf, Option.some.injEq] at e
    subst e
    rfl
  | _, .int i :: ds, ns, .cons a b, e => by
    cases a
    simp only [intsOf, Option.map_eq_some_iff] at e
    obtain ⟨ms, e1, e2⟩ := e
    subst e2
    rw [List.map_cons, ← DqAll.ints b e1]
  | _, .none :: ds, ns, .cons a b, e => by simp [intsOf] at e
  | _, .bool _ :: ds, ns, .cons a b, e => by simp [intsOf] at e
  | _, .str _ :: ds, ns, .cons a b, e => by simp [intsOf] at e
  | _, .list _ :: ds, ns, .cons a b, e => by simp [intsOf] at e
  | _, .tuple _ :: ds, ns, .cons a b, e => by simp [intsOf] at e
  | _, .dict _ :: ds, ns, .cons a b, e => by simp [intsOf] at e
theorem DqAll.ofInts : ∀ ns : List Int, DqAll K H (ns.map V.int) (ns.map PyData.int)
  | [] => .nil
  | n :: r => .cons (.int n) (DqAll.ofInts r)
end

abbrev Rho := Option (Addr × Addr)
/-- the deck as it lies -/
def DeckOk (K : PySem.W.Frag) (FH H : Hp) (dl c : Addr) (g : G) : Prop :=
  ∃ vr vt, FH dl = some (.lst [vr, .ref c, vt]) ∧ Dq K FH vr g.row ∧ Dq K FH vt g.tot ∧ FH c = none ∧ H c = some (.lst [.int g.at_])
/-- behind a call (or a body up to now): FH what never changes -/
structure Ext (ρ : Rho) (FH H FH' H' : Hp) : Prop where
  fsub : Sub FH FH'
  hsub : ∀ a o, H a = some o → (∀ dl c, ρ = some (dl, c) → a ≠ c) → H' a = some o
  new : ∀ a o, FH' a = some o → FH a = some o ∨ H a = none
  there : ∀ a o, H a = some o → ∃ o', H' a = some o'
theorem Ext.refl {ρ : Rho} {FH H : Hp} : Ext ρ FH H FH H := ⟨Sub.refl _, fun _ _ h _ => h, fun _ _ h => .inl h, fun _ o h => ⟨o, h⟩⟩
theorem Ext.trans {ρ : Rho} {F0 H0 F1 H1 F2 H2 : Hp} (a : Ext ρ F0 H0 F1 H1) (b : Ext ρ F1 H1 F2 H2) : Ext ρ F0 H0 F2 H2 where
  fsub := a.fsub.trans b.fsub
  hsub := fun x o h hc => b.hsub x o (a.hsub x o h hc) hc
  new := fun x o h => by
    rcases b.new x o h with q | q
    · exact a.new x o q
    · right
      cases e : H0 x with
      | none => rfl
      | some u =>
        obtain ⟨o', z⟩ := a.there x u e
        rw [q] at z
        cases z
  there := fun x o h => by
    obtain ⟨o', q⟩ := a.there x o h
    exact b.there x o' q

/-- what is fixed through a body: the written part, the state at the entry, what is wanted of an exception -/
structure Yx where
  K : PySem.W.Frag
  ρ0 : Rho
  FH0 : Hp
  H0 : Hp
  Ex : Exn → Sl → G → Prop
  /-- lists under way (a comprehension's) -/
  pd : Addr → Option (List V)

structure Rep (Y : Yx) (ρ : Rho) (FH H : Hp) (σ' : St) (σ : Sl) (g : G) : Prop where
  sub : Sub FH H
  len : σ'.length = σ.length
  fz : ∀ (i : Nat) (d : D), σ[i]? = some (some (.fz d)) → ∃ v, σ'[i]? = some (some v) ∧ Dq Y.K FH v d
  ow : ∀ (i : Nat) (ds : List D), σ[i]? = some (some (.ow ds)) → ∃ p vs, σ'[i]? = some (some (.ref p)) ∧ FH p = none ∧ H p = some (.lst vs) ∧ DqAll Y.K FH vs ds ∧ Y.H0 p = none ∧ ∀ dl c, ρ = some (dl, c) → p ≠ c
  dis : ∀ (i j : Nat) (ds es : List D) (p : Addr), σ[i]? = some (some (.ow ds)) → σ[j]? = some (some (.ow es)) → σ'[i]? = some (some (.ref p)) → σ'[j]? = some (some (.ref p)) → i = j
  nond : ∀ (i : Nat) (r : D) (a : Int) (t : D), σ[i]? ≠ some (some (.nd r a t))
  dl : ∀ i : Nat, σ[i]? = some (some .deal) → ∃ dl c, ρ = some (dl, c) ∧ σ'[i]? = some (some (.ref dl))
  deck : ∀ dl c, ρ = some (dl, c) → DeckOk Y.K FH H dl c g
  ext : Ext Y.ρ0 Y.FH0 Y.H0 FH H
  rho : ∀ x, Y.ρ0 = some x → ρ = some x
  cf : ∀ dl c, ρ = some (dl, c) → Y.ρ0 = some (dl, c) ∨ Y.H0 c = none
  pend : ∀ (p : Addr) (vs : List V), Y.pd p = some vs → H p = some (.lst vs) ∧ FH p = none ∧ (∀ (i : Nat) (es : List D), σ[i]? = some (some (.ow es)) → σ'[i]? ≠ some (some (.ref p))) ∧ (∀ dl c, ρ = some (dl, c) → p ≠ c) ∧ Y.H0 p = none

/-- an expression may only take a slot's list out of the frame's own -/
def Evo (σ σ2 : Sl) : Prop := σ2.length = σ.length ∧ ∀ i : Nat, σ2[i]? = σ[i]? ∨ ∃ ds, σ[i]? = some (some (.ow ds)) ∧ σ2[i]? = some (some (.fz (.list ds)))
theorem Evo.refl (σ : Sl) : Evo σ σ := ⟨rfl, fun _ => .inl rfl⟩
theorem Evo.trans {σ σ1 σ2 : Sl} (a : Evo σ σ1) (b : Evo σ1 σ2) : Evo σ σ2 := ⟨b.1.trans a.1, fun i => by
  rcases b.2 i with h | ⟨ds, h1, h2⟩
  · rcases a.2 i with q | ⟨es, q1, q2⟩
    · exact .inl (h.trans q)
    · exact .inr ⟨es, q1, h.trans q2⟩
  · rcases a.2 i with q | ⟨es, q1, q2⟩
    · exact .inr ⟨ds, q.symm.trans h1, h2⟩
    · rw [q2] at h1
      cases h1⟩

/-- what an operation leaves: nothing new, or one new object -/
def NewRes (K : PySem.W.Frag) (FH H FH2 H2 : Hp) (v : V) : SV → Prop
  | .fz d => Dq K FH2 v d ∧ ((FH2 = FH ∧ H2 = H) ∨ ∃ p o, H p = none ∧ FH2 = upd FH p o ∧ H2 = upd H p o)
  | .ow ds => FH2 = FH ∧ ∃ p vs, H p = none ∧ v = .ref p ∧ H2 = upd H p (.lst vs) ∧ DqAll K FH vs ds
  | _ => False

section
variable {Y : Yx} {ρ : Rho} {FH H FH2 H2 : Hp} {σ' : St} {σ σ2 : Sl} {g : G}
/-- a new object that never changes -/
theorem Rep.newF (R : Rep Y ρ FH H σ' σ g) {p : Addr} {o : HO} (hn : H p = none) : Rep Y ρ (upd FH p o) (upd H p o) σ' σ g := by
  have hf : FH p = none := R.sub.free hn
  have up : Sub FH (upd FH p o) := Sub.new hf
  have hne : ∀ q u, H q = some u → q ≠ p := fun q u e => ne_of_none e hn
  refine ⟨R.sub.both, R.len, fun i d h => ?_, fun i ds h => ?_, R.dis, R.nond, R.dl, fun dl c h => ?_, ?_, R.rho, R.cf, fun q vs h => ?_⟩
  · obtain ⟨v, h1, h2⟩ := R.fz i d h
    exact ⟨v, h1, Dq.up up d h2⟩
  · obtain ⟨q, vs, h1, h2, h3, h4, h5, h6⟩ := R.ow i ds h
    have z := hne q _ h3
    exact ⟨q, vs, h1, by rw [upd_ne z]; exact h2, by rw [upd_ne z]; exact h3, DqAll.up up ds h4, h5, h6⟩
  · obtain ⟨vr, vt, h1, h2, h3, h4, h5⟩ := R.deck dl c h
    have z := hne c _ h5
    exact ⟨vr, vt, up _ _ h1, Dq.up up _ h2, Dq.up up _ h3, by rw [upd_ne z]; exact h4, by rw [upd_ne z]; exact h5⟩
  · refine ⟨R.ext.fsub.trans up, fun a u h hc => ?_, fun a u h => ?_, fun a u h => ?_⟩
    · have q := R.ext.hsub a u h hc
      rw [upd_ne (hne a _ q)]
      exact q
    · by_cases z : a = p
      · subst z
        right
        cases e : Y.H0 a with
        | none => rfl
        | some w =>
          obtain ⟨o', e'⟩ := R.ext.there a w e
          rw [hn] at e'
          cases e'
      · rw [upd_ne z] at h
        exact R.ext.new a u h
    · obtain ⟨o', q⟩ := R.ext.there a u h
      exact ⟨o', by rw [upd_ne (hne a _ q)]; exact q⟩
  · obtain ⟨h1, h2, h3, h4⟩ := R.pend q vs h
    have z := hne q _ h1
    exact ⟨by rw [upd_ne z]; exact h1, by rw [upd_ne z]; exact h2, h3, h4⟩
/-- a new list that may change -/
theorem Rep.newL (R : Rep Y ρ FH H σ' σ g) {p : Addr} {o : HO} (hn : H p = none) : Rep Y ρ FH (upd H p o) σ' σ g := by
  have hf : FH p = none := R.sub.free hn
  have hne : ∀ q u, H q = some u → q ≠ p := fun q u e => ne_of_none e hn
  refine ⟨R.sub.upd2 hf, R.len, R.fz, fun i ds h => ?_, R.dis, R.nond, R.dl, fun dl c h => ?_, ?_, R.rho, R.cf, fun q vs h => ?_⟩
  · obtain ⟨q, vs, h1, h2, h3, h4, h5, h6⟩ := R.ow i ds h
    exact ⟨q, vs, h1, h2, by rw [upd_ne (hne q _ h3)]; exact h3, h4, h5, h6⟩
  · obtain ⟨vr, vt, h1, h2, h3, h4, h5⟩ := R.deck dl c h
    exact ⟨vr, vt, h1, h2, h3, h4, by rw [upd_ne (hne c _ h5)]; exact h5⟩
  · refine ⟨R.ext.fsub, fun a u h hc => ?_, R.ext.new, fun a u h => ?_⟩
    · have q := R.ext.hsub a u h hc
      rw [upd_ne (hne a _ q)]
      exact q
    · obtain ⟨o', q⟩ := R.ext.there a u h
      exact ⟨o', by rw [upd_ne (hne a _ q)]; exact q⟩
  · obtain ⟨h1, h2, h3, h4⟩ := R.pend q vs h
    exact ⟨by rw [upd_ne (hne q _ h1)]; exact h1, h2, h3, h4⟩
theorem Rep.old (R : Rep Y ρ FH H σ' σ g) {p : Addr} (hn : H p = none) : Y.H0 p = none := by
  cases e : Y.H0 p with
  | none => rfl
  | some w =>
    obtain ⟨o', e'⟩ := R.ext.there p w e
    rw [hn] at e'
    cases e'
/-- a fresh list of the frame's own, in no slot -/
structure Fresh (Y : Yx) (ρ : Rho) (FH H : Hp) (σ' : St) (σ : Sl) (p : Addr) (vs : List V) (ds : List D) : Prop where
  f : FH p = none
  h : H p = some (.lst vs)
  a : DqAll Y.K FH vs ds
  o : Y.H0 p = none
  c : ∀ dl c, ρ = some (dl, c) → p ≠ c
  s : ∀ (i : Nat) (es : List D), σ[i]? = some (some (.ow es)) → σ'[i]? ≠ some (some (.ref p))
  d : Y.pd p = none
/-- it is frozen -/
theorem Rep.freeze (R : Rep Y ρ FH H σ' σ g) {p : Addr} {vs : List V} {ds : List D} (F : Fresh Y ρ FH H σ' σ p vs ds) : Rep Y ρ (upd FH p (.lst vs)) H σ' σ g := by
  have up : Sub FH (upd FH p (.lst vs)) := Sub.new F.f
  refine ⟨R.sub.to F.h, R.len, fun i d h => ?_, fun i es h => ?_, R.dis, R.nond, R.dl, fun dl c h => ?_, ?_, R.rho, R.cf, fun q ws h => ?_⟩
  · obtain ⟨v, h1, h2⟩ := R.fz i d h
    exact ⟨v, h1, Dq.up up d h2⟩
  · obtain ⟨q, ws, h1, h2, h3, h4, h5, h6⟩ := R.ow i es h
    have z : q ≠ p := fun e => F.s i es h (by rw [h1, e])
    exact ⟨q, ws, h1, by rw [upd_ne z]; exact h2, h3, DqAll.up up es h4, h5, h6⟩
  · obtain ⟨vr, vt, h1, h2, h3, h4, h5⟩ := R.deck dl c h
    exact ⟨vr, vt, up _ _ h1, Dq.up up _ h2, Dq.up up _ h3, by rw [upd_ne (F.c dl c h).symm]; exact h4, h5⟩
  · refine ⟨R.ext.fsub.trans up, R.ext.hsub, fun a u h => ?_, R.ext.there⟩
    by_cases z : a = p
    · subst z
      exact .inr F.o
    · rw [upd_ne z] at h
      exact R.ext.new a u h
  · obtain ⟨h1, h2, h3, h4⟩ := R.pend q ws h
    have z : q ≠ p := fun e => by
      rw [e, F.d] at h
      cases h
    exact ⟨h1, by rw [upd_ne z]; exact h2, h3, h4⟩
theorem dq_frozen {K : PySem.W.Frag} {p : Addr} {vs : List V} {ds : List D} (hf : FH p = none) (a : DqAll K FH vs ds) : Dq K (upd FH p (.lst vs)) (.ref p) (.list ds) :=
  .lst (.inl upd_same) (DqAll.up (Sub.new hf) ds a)
/-- a slot's own list is frozen, the slot told so -/
theorem Rep.freezeSlot (R : Rep Y ρ FH H σ' σ g) {i : Nat} {ds : List D} (hi : σ[i]? = some (some (.ow ds))) :
    ∃ p vs, σ'[i]? = some (some (.ref p)) ∧ FH p = none ∧ Rep Y ρ (upd FH p (.lst vs)) H σ' (σ.set i (some (.fz (.list ds)))) g ∧ Dq Y.K (upd FH p (.lst vs)) (.ref p) (.list ds) := by
  obtain ⟨p, vs, h1, h2, h3, h4, h5, h6⟩ := R.ow i ds hi
  have up : Sub FH (upd FH p (.lst vs)) := Sub.new h2
  have hlt : i < σ.length := (List.getElem?_eq_some_iff.mp hi).1
  have hd : Dq Y.K (upd FH p (.lst vs)) (.ref p) (.list ds) := dq_frozen h2 h4
  refine ⟨p, vs, h1, h2, ⟨R.sub.to h3, by rw [List.length_set]; exact R.len, fun j d h => ?_, fun j es h => ?_, fun j k es fs q a1 a2 a3 a4 => ?_, fun j r a t h => ?_, fun j h => ?_, fun dl c h => ?_, ?_, R.rho, R.cf, fun q ws h => ?_⟩, hd⟩
  · by_cases z : i = j
    · subst z
      rw [List.getElem?_set_self hlt] at h
      cases h
      exact ⟨_, h1, hd⟩
    · rw [List.getElem?_set_ne z] at h
      obtain ⟨v, q1, q2⟩ := R.fz j d h
      exact ⟨v, q1, Dq.up up d q2⟩
  · by_cases z : i = j
    · subst z
      rw [List.getElem?_set_self hlt] at h
      cases h
    · rw [List.getElem?_set_ne z] at h
      obtain ⟨q, ws, b1, b2, b3, b4, b5, b6⟩ := R.ow j es h
      have w : q ≠ p := fun e => z (R.dis i j ds es p hi h h1 (by rw [b1, e]))
      exact ⟨q, ws, b1, by rw [upd_ne w]; exact b2, b3, DqAll.up up es b4, b5, b6⟩
  · have e1 : i ≠ j := fun z => by
      subst z
      rw [List.getElem?_set_self hlt] at a1
      cases a1
    have e2 : i ≠ k := fun z => by
      subst z
      rw [List.getElem?_set_self hlt] at a2
      cases a2
    rw [List.getElem?_set_ne e1] at a1
    rw [List.getElem?_set_ne e2] at a2
    exact R.dis j k es fs q a1 a2 a3 a4
  · by_cases z : i = j
    · subst z
      rw [List.getElem?_set_self hlt] at h
      cases h
    · rw [List.getElem?_set_ne z] at h
      exact R.nond j r a t h
  · by_cases z : i = j
    · subst z
      rw [List.getElem?_set_self hlt] at h
      cases h
    · rw [List.getElem?_set_ne z] at h
      exact R.dl j h
  · obtain ⟨vr, vt, b1, b2, b3, b4, b5⟩ := R.deck dl c h
    exact ⟨vr, vt, up _ _ b1, Dq.up up _ b2, Dq.up up _ b3, by rw [upd_ne (h6 dl c h).symm]; exact b4, b5⟩
  · refine ⟨R.ext.fsub.trans up, R.ext.hsub, fun a u h => ?_, R.ext.there⟩
    by_cases z : a = p
    · subst z
      exact .inr h5
    · rw [upd_ne z] at h
      exact R.ext.new a u h
  · obtain ⟨b1, b2, b3, b4⟩ := R.pend q ws h
    have z : q ≠ p := fun e => b3 i ds hi (by rw [h1, e])
    refine ⟨b1, by rw [upd_ne z]; exact b2, fun j es hj => ?_, b4⟩
    by_cases w : i = j
    · subst w
      rw [List.getElem?_set_self hlt] at hj
      cases hj
    · rw [List.getElem?_set_ne w] at hj
      exact b3 j es hj
theorem evo_set {i : Nat} {ds : List D} (hi : σ[i]? = some (some (.ow ds))) : Evo σ (σ.set i (some (.fz (.list ds)))) := by
  have hlt : i < σ.length := (List.getElem?_eq_some_iff.mp hi).1
  refine ⟨List.length_set, fun j => ?_⟩
  by_cases z : i = j
  · subst z
    exact .inr ⟨ds, hi, List.getElem?_set_self hlt⟩
  · exact .inl (List.getElem?_set_ne z)
/-- an operation's end -/
theorem Rep.res (R : Rep Y ρ FH H σ' σ g) {v : V} {sv : SV} (n : NewRes Y.K FH H FH2 H2 v sv) : Rep Y ρ FH2 H2 σ' σ g ∧ Sub FH FH2 := by
  cases sv with
  | fz d =>
    obtain ⟨_, ⟨rfl, rfl⟩ | ⟨p, o, hn, rfl, rfl⟩⟩ := n
    · exact ⟨R, Sub.refl _⟩
    · exact ⟨R.newF hn, Sub.new (R.sub.free hn)⟩
  | ow ds =>
    obtain ⟨rfl, p, vs, hn, rfl, rfl, a⟩ := n
    exact ⟨R.newL hn, Sub.refl _⟩
  | deal => exact n.elim
  | nd _ _ _ => exact n.elim
theorem Rep.slotNe (R : Rep Y ρ FH H σ' σ g) {p : Addr} (hn : H p = none) : ∀ (i : Nat) (es : List D), σ[i]? = some (some (.ow es)) → σ'[i]? ≠ some (some (.ref p)) := fun i es h e => by
  obtain ⟨q, vs, h1, _, h3, _⟩ := R.ow i es h
  rw [h1] at e
  cases e
  rw [hn] at h3
  cases h3
theorem Rep.pdNe (R : Rep Y ρ FH H σ' σ g) {p : Addr} (hn : H p = none) : Y.pd p = none := by
  cases e : Y.pd p with
  | none => rfl
  | some vs =>
    have h := (R.pend p vs e).1
    rw [hn] at h
    cases h
theorem Rep.cellNe (R : Rep Y ρ FH H σ' σ g) {p : Addr} (hn : H p = none) : ∀ dl c, ρ = some (dl, c) → p ≠ c := fun dl c h e => by
  obtain ⟨_, _, _, _, _, _, h5⟩ := R.deck dl c h
  rw [← e, hn] at h5
  cases h5
end
end
end FD
/-! FD3: operators of the layer, as wide as the data wants them. -/
namespace FD
noncomputable section
open PySem PySem.W PySem.Spec PyProof.Rows
open L2 (Hp HO V upd upd_same upd_ne ne_of_none Rd SqL SqT Vals RelV VK TE TT TA TS TG TGs XK Cx PE PT PW PA PS PSs PG PGs PI Inv OpR UnR CallR R2 EP rI0 rI ObjOk)
section
variable {X : Cx}
/-! ### list + list, list * int -/
def rCatL : R2 := fun x y H Q => ∃ l b xs zs, x = .ref l ∧ y = .ref b ∧ Rd H l (.lst xs) ∧ Rd H b (.lst zs) ∧ xs.length + zs.length ≤ sizeLine ∧ ∀ p, H p = none → Q (.ref p) (upd H p (.lst (xs ++ zs)))
theorem op_catL : OpR X (binaryOp .Add) rCatL := by
  intro pins s σ H x y v u Q I rx ry h
  obtain ⟨l, b, xs, zs, rfl, rfl, hH, hB, hz, q⟩ := h
  cases rx
  cases ry
  obtain ⟨z, its, n, r, e⟩ := hH.ok I.hok
  obtain ⟨z2, its2, n2, r2, e2⟩ := hB.ok I.hok
  have hl := r.length
  have hl2 := r2.length
  refine PySem.P.add_list e e2 ?_ (by rw [List.size_toArray, List.size_toArray]; omega)
  have ea : its.toArray ++ its2.toArray = (its ++ its2).toArray := by simp
  rw [ea]
  exact ⟨.ref _, _, I.lnew (t' := s.toks) (r.append r2) (by rw [List.length_append]; omega), rfl, q _ I.fresh⟩
def rRepL : R2 := fun x y H Q => ∃ l k xs, x = .ref l ∧ y = .int k ∧ Rd H l (.lst xs) ∧ -(2 ^ 63) ≤ k ∧ k < 2 ^ 63 ∧ xs.length * k.toNat ≤ sizeLine ∧
  ∀ p, H p = none → Q (.ref p) (upd H p (.lst (List.replicate k.toNat xs).flatten))
theorem op_repL : OpR X (binaryOp .Mult) rRepL := by
  intro pins s σ H x y v u Q I rx ry h
  obtain ⟨l, k, xs, rfl, rfl, hH, h1, h2, hz, q⟩ := h
  cases rx
  obtain ⟨t, rfl⟩ := ry
  obtain ⟨z, its, n, r, e⟩ := hH.ok I.hok
  have hl := r.length
  have hlen : its.toArray.size * k.toNat ≤ sizeLine := by rw [List.size_toArray, ← hl]; exact hz
  have hcap : ¬ its.toArray.size * k.toNat > (2 ^ 63 - 1) / 8 := by
    have : (sizeLine : Nat) ≤ (2 ^ 63 - 1) / 8 := by decide
    omega
  have hfit : ¬ (!Builtin.List.listFitsIndex k) = true := by
    rw [fitsIndex_both h1 h2]
    exact Bool.false_ne_true
  have hlong : ¬ Builtin.List.listTooLong (its.toArray.size * k.toNat) = true := by
    rw [L2.notLongL hlen]
    exact Bool.false_ne_true
  have hnew : List.foldl (fun x1 x2 => x1 ++ x2) #[] (List.replicate (if its.toArray.isEmpty = true then 0 else k.toNat) its.toArray) = (List.replicate k.toNat its).flatten.toArray := by
    have f0 : ∀ m : Nat, List.foldl (fun x1 x2 => x1 ++ x2) #[] (List.replicate m its.toArray) = (List.replicate m its).flatten.toArray := fun m => by
      have := L2.foldl_rep its m []
      rw [List.nil_append] at this
      exact this
    rw [f0]
    cases its with
    | nil => simp
    | cons a r' => rw [if_neg (by simp)]
  refine wpAny_binaryOp_repeat_ref (T := "list") (U := "int") (by decide) ⟨_, e, rfl⟩ (fun s' => typeIs_int s' k t) noFill_list_mul F.fills_int_mul F.slot_int_rmul repeat_list F.slot_int_index.lookup
    (call_meets F.slot_int_rmul (typeIs_int s k t) F.entry_int_rmul (F.args_int_rmul_2 _ _) (int___rmul___int_list k t l its.toArray n)
      ⟨e, rfl, ⟨_, e, rfl⟩, call_meets F.slot_list_mul ⟨_, e, rfl⟩ F.entry_list_mul (F.args_list_mul_2 _ _) (AutoListH.list___mul___list_int_3 l its.toArray n k t hfit hcap hlong) ⟨e, ?_⟩⟩)
  rw [hnew]
  exact ⟨.ref _, _, I.lnew (t' := s.toks) (r.rep k.toNat) (by rw [PyProof.Rows.lm_len_rep_flat, Nat.mul_comm]; exact hz), rfl, q _ I.fresh⟩
/-! ### tuple + tuple, tuple * int -/
def rCatU (K : PySem.W.Frag) : R2 := fun x y H Q => ∃ a b xs ys, x = .ref a ∧ y = .ref b ∧ SqT K H a xs ∧ SqT K H b ys ∧ xs.length + ys.length ≤ sizeLine ∧
  (xs = [] → Q (.ref b) H) ∧ (xs ≠ [] → ys = [] → Q (.ref a) H) ∧ (xs ≠ [] → ys ≠ [] → ∀ p, H p = none → Q (.ref p) (upd H p (.tup (xs ++ ys))))
theorem op_catU : OpR X (binaryOp .Add) (rCatU X.K) := by
  intro pins s σ H x y v u Q I rx ry h
  obtain ⟨a, b, xs, ys, rfl, rfl, ha, hb, hz, q0, q1, q2⟩ := h
  cases rx
  cases ry
  obtain ⟨its, r1, p1, _⟩ := I.tuple ha
  obtain ⟨its2, r2, p2, _⟩ := I.tuple hb
  by_cases hx : its = []
  · obtain ⟨⟨cls, dd, data, sl⟩, ho, hc, n, hd⟩ := id p1
    obtain ⟨⟨cls2, dd2, data2, sl2⟩, ho2, hc2, n2, hd2⟩ := id p2
    simp only at hc hd hc2 hd2
    subst hc hd hc2 hd2
    exact concat_meets ⟨_, ho, rfl⟩ ⟨_, ho2, rfl⟩ noFill_tuple_add seq_tuple_add PySem.F.slot_tuple_add PySem.F.entry_tuple_add (PySem.F.args_tuple_add_2 _ _)
      (tuple_addW0 a b its.toArray its2.toArray n n2 dd dd2 sl sl2 (by simp [hx])) ⟨ho, ho2, ⟨.ref b, H, I, rfl, q0 (r1.nil_iff.mp hx)⟩⟩
  · have hx' : xs ≠ [] := fun z => hx (r1.nil_iff.mpr z)
    refine HT.cat_tup p1 p2 hx (fun z => ⟨.ref a, H, I, rfl, q1 hx' (r2.nil_iff.mp z)⟩) (fun z => ?_) (by rw [← r1.length, ← r2.length]; exact hz)
    refine ⟨.ref s.heap.objs.size, _, I.laid (t' := s.toks) (o := .tup (xs ++ ys)) (fun b ob q => Heap.get?_push_of_some _ q) (Nat.le_refl _) ?_, rfl, q2 hx' (fun w => z (r2.nil_iff.mpr w)) _ (I.hok.fresh (Nat.le_refl _))⟩
    exact ⟨by rw [List.length_append]; exact hz, _, r1.append r2, IsTup.new _ _⟩
def rRepU (K : PySem.W.Frag) : R2 := fun x y H Q => ∃ l k xs, x = .ref l ∧ y = .int k ∧ SqT K H l xs ∧ xs ≠ [] ∧ 2 ≤ k ∧ k ≤ 100000 ∧ xs.length * k.toNat ≤ sizeLine ∧ ∀ p, H p = none → Q (.ref p) (upd H p (.tup (List.replicate k.toNat xs).flatten))
theorem op_repU : OpR X (binaryOp .Mult) (rRepU X.K) := by
  intro pins s σ H x y v u Q I rx ry h
  obtain ⟨l, k, xs, rfl, rfl, hT, hne, h1, h2, hz, q⟩ := h
  cases rx
  obtain ⟨t, rfl⟩ := ry
  obtain ⟨its, r, ⟨⟨cls, dd, data, sl⟩, ho, hc, n, hd⟩, hs⟩ := I.tuple hT
  simp only at hc hd
  subst hc hd
  have hle : its.length = xs.length := r.length.symm
  have hn : its ≠ [] := fun e => hne (by
    rw [e] at hle
    exact List.eq_nil_of_length_eq_zero hle.symm)
  have hi : its.toArray.isEmpty = false := by
    cases its with
    | nil => exact absurd rfl hn
    | cons a b => rfl
  have hsz0 : its.toArray.size = xs.length := by rw [List.size_toArray, hle]
  have hk : ((k.toNat : Nat) : Int) = k := by omega
  have hm : ((its.toArray.size : Nat) : Int) * k ≤ (sizeLine : Nat) := by
    rw [hsz0, ← hk]
    exact_mod_cast hz
  have flen : (List.replicate k.toNat its).flatten.length ≤ sizeLine := by
    rw [PyProof.Rows.lm_len_rep_flat, hle, Nat.mul_comm]
    exact hz
  have c0 : (decide (k < -(2 ^ 63)) || decide (k ≥ 2 ^ 63)) = false := by
    rw [decide_eq_false (by omega), decide_eq_false (by omega)] <;> rfl
  have c1 : (its.toArray.isEmpty || k == 1) = false := by
    rw [hi, Bool.false_or]
    exact beq_eq_false_iff_ne.mpr (by omega)
  have c2 : (decide (k ≤ 0) || its.toArray.isEmpty) = false := by
    rw [hi, Bool.or_false]
    exact decide_eq_false (by omega)
  have c4 : Builtin.Tuple.tupleTooMany (((its.toArray.size : Nat) : Int) * k) = false := by
    unfold Builtin.Tuple.tupleTooMany
    exact decide_eq_false (by omega)
  have c3 : ¬ ((its.toArray.size : Nat) : Int) * k > (2 ^ 63 - 1) / 8 := by
    have : (sizeLine : Int) ≤ (2 ^ 63 - 1) / 8 := by decide
    omega
  refine wpAny_binaryOp_repeat_ref (T := "tuple") (U := "int") (by decide) ⟨_, ho, rfl⟩ (fun s' => typeIs_int s' k t) L2.noFill_tuple_mul F.fills_int_mul F.slot_int_rmul L2.repeat_tuple F.slot_int_index.lookup
    (call_meets F.slot_int_rmul (typeIs_int s k t) F.entry_int_rmul (F.args_int_rmul_2 _ _) (L2.int_rmul_tuple k t l its.toArray n dd sl)
      ⟨ho, rfl, ⟨_, ho, rfl⟩, call_meets F.slot_tuple_mul ⟨_, ho, rfl⟩ F.entry_tuple_mul (F.args_tuple_mul_2 _ _) (L2.tuple_mulW l its.toArray n dd sl k t c0 c1 c2 c3 c4 (by rw [L2.size_rep, List.size_toArray]; exact flen)) ⟨ho, ?_⟩⟩)
  rw [L2.size_rep]
  have flen2 : (List.replicate k.toNat xs).flatten.length ≤ sizeLine := by
    rw [PyProof.Rows.lm_len_rep_flat, Nat.mul_comm]
    exact hz
  refine ⟨.ref s.heap.objs.size, _, I.laid (t' := s.toks) (o := .tup (List.replicate k.toNat xs).flatten) (fun b ob q => Heap.get?_push_of_some _ q) (Nat.le_refl _) ?_, rfl, q _ (I.hok.fresh (Nat.le_refl _))⟩
  exact ⟨flen2, _, r.rep k.toNat, IsTup.new _ _⟩
end
end
end FD
/-! FD4: what a combinator says of a reading: expressions. -/
namespace FD
noncomputable section
open PySem
open L2 (Hp HO V upd upd_same upd_ne ne_of_none Rd SqL SqT Vals RelV VK TE TT TA TS TG TGs St XK Cx PE PT PW PA PS PSs PG PGs PI Inv OpR UnR CallR R2 rI0 rI tOp tUn tVar tC tCB tCons tNil)

def Good (Y : Yx) {α : Type} (o : Out α) (P : α → Sl → G → Prop) : Prop := match o with
  | .ok a σ g => P a σ g
  | .exc e σ g => Y.Ex e σ g
  | .stuck => False
section
variable {Y : Yx} {α β : Type}
theorem Good.mono {o : Out α} {P P' : α → Sl → G → Prop} (h : Good Y o P) (k : ∀ a σ g, P a σ g → P' a σ g) : Good Y o P' := by
  cases o with
  | ok a σ g => exact k a σ g h
  | exc e σ g => exact h
  | stuck => exact h
theorem Good.monoE {o : Out α} {P P' : α → Sl → G → Prop} (h : Good Y o P) (k : ∀ a σ g, o = .ok a σ g → P a σ g → P' a σ g) : Good Y o P' := by
  cases o with
  | ok a σ g => exact k a σ g rfl h
  | exc e σ g => exact h
  | stuck => exact h
theorem Good.bind {o : Out α} {k : α → Ev β} {P : β → Sl → G → Prop} (h : Good Y (o.bind k) P) : Good Y o (fun a σ g => Good Y (k a σ g) P) := by
  cases o with
  | ok a σ g => exact h
  | exc e σ g => exact h
  | stuck => exact h
theorem Good.lift {o : Option α} {σ : Sl} {g : G} {P : α → Sl → G → Prop} (h : Good Y (liftO o σ g) P) : ∃ a, o = some a ∧ P a σ g := by
  cases o with
  | none => exact h.elim
  | some a => exact ⟨a, rfl, h⟩
end

abbrev RelT (α : Type) := Rho → Hp → Hp → St → Sl → V → α → Prop
/-- looked at -/
def RelP (Y : Yx) : RelT D := fun _ FH _ σ' σ v d => Dq Y.K FH v d ∨ ∃ (i : Nat) (ds : List D), d = .list ds ∧ σ[i]? = some (some (.ow ds)) ∧ σ'[i]? = some (some v)
/-- never changes any more -/
def RelD (Y : Yx) : RelT D := fun _ FH _ _ _ v d => Dq Y.K FH v d
/-- a deck just made -/
def NdOk (Y : Yx) (ρ : Rho) (FH H : Hp) (σ' : St) (σ : Sl) (v : V) (r : D) (i : Int) (t : D) : Prop :=
  ∃ p c vr vt, v = .ref p ∧ FH p = none ∧ FH c = none ∧ H p = some (.lst [vr, .ref c, vt]) ∧ H c = some (.lst [.int i]) ∧ Dq Y.K FH vr r ∧ Dq Y.K FH vt t ∧ Y.H0 p = none ∧ Y.H0 c = none ∧ p ≠ c ∧
    (∀ (j : Nat) (es : List D), σ[j]? = some (some (.ow es)) → σ'[j]? ≠ some (some (.ref p)) ∧ σ'[j]? ≠ some (some (.ref c))) ∧ (∀ dl c', ρ = some (dl, c') → p ≠ c' ∧ c ≠ c') ∧ Y.pd p = none ∧ Y.pd c = none
/-- own -/
def RelO (Y : Yx) : RelT SV := fun ρ FH H σ' σ v sv => match sv with
  | .fz d => Dq Y.K FH v d
  | .ow ds => ∃ p vs, v = .ref p ∧ Fresh Y ρ FH H σ' σ p vs ds
  | .deal => ∃ dl c, ρ = some (dl, c) ∧ v = .ref dl
  | .nd r i t => NdOk Y ρ FH H σ' σ v r i t
def SndE (Y : Yx) {α : Type} (R : RelT α) (te : TE) (f : Ev α) : Prop :=
  ∀ (ρ : Rho) (FH H : Hp) (σ' : St) (σ : Sl) (g : G) (Q : VK), Rep Y ρ FH H σ' σ g → Good Y (f σ g) (fun a σ2 g2 => ∀ v FH2 H2, Rep Y ρ FH2 H2 σ' σ2 g2 → Sub FH FH2 → Evo σ σ2 → R ρ FH2 H2 σ' σ2 v a → Q v H2) → te σ' H Q
def SndT (Y : Yx) (tt : TT) (f : Ev Bool) : Prop :=
  ∀ (ρ : Rho) (FH H : Hp) (σ' : St) (σ : Sl) (g : G) (Q : Bool → Hp → Prop), Rep Y ρ FH H σ' σ g → Good Y (f σ g) (fun b σ2 g2 => ∀ FH2 H2, Rep Y ρ FH2 H2 σ' σ2 g2 → Sub FH FH2 → Evo σ σ2 → Q b H2) → tt σ' H Q
def SndA (Y : Yx) (ta : TA) (f : Ev (List D)) : Prop :=
  ∀ (ρ : Rho) (FH H : Hp) (σ' : St) (σ : Sl) (g : G) (Q : List V → Hp → Prop), Rep Y ρ FH H σ' σ g → Good Y (f σ g) (fun as σ2 g2 => ∀ vs FH2 H2, Rep Y ρ FH2 H2 σ' σ2 g2 → Sub FH FH2 → Evo σ σ2 → DqAll Y.K FH2 vs as → Q vs H2) → ta σ' H Q

section
variable {Y : Yx} {ρ : Rho} {FH H FH2 H2 : Hp} {σ' : St} {σ σ2 : Sl} {g g2 : G}
theorem RelP.up {v : V} {d : D} (h : RelP Y ρ FH H σ' σ v d) (S : Sub FH FH2) (E : Evo σ σ2) (R2 : Rep Y ρ FH2 H2 σ' σ2 g2) : RelP Y ρ FH2 H2 σ' σ2 v d := by
  rcases h with h | ⟨i, ds, e, h1, h2⟩
  · exact .inl (Dq.up S d h)
  · rcases E.2 i with q | ⟨es, q1, q2⟩
    · exact .inr ⟨i, ds, e, q.trans h1, h2⟩
    · rw [h1] at q1
      cases q1
      obtain ⟨w, z1, z2⟩ := R2.fz i _ q2
      rw [h2] at z1
      cases z1
      subst e
      exact .inl z2
theorem RelP.list {v : V} {ds : List D} (R : Rep Y ρ FH H σ' σ g) (h : RelP Y ρ FH H σ' σ v (.list ds)) : ∃ p vs, v = .ref p ∧ Rd H p (.lst vs) ∧ DqAll Y.K FH vs ds := by
  rcases h with h | ⟨i, es, e, h1, h2⟩
  · cases h with
    | lst h a => exact ⟨_, _, rfl, R.sub.rd h, a⟩
  · cases e
    obtain ⟨p, vs, q1, q2, q3, q4, _⟩ := R.ow i _ h1
    rw [h2] at q1
    cases q1
    exact ⟨p, vs, rfl, .inl q3, q4⟩
theorem RelP.tup {v : V} {ds : List D} (h : RelP Y ρ FH H σ' σ v (.tuple ds)) : ∃ p vs, v = .ref p ∧ SqT Y.K FH p vs ∧ DqAll Y.K FH vs ds := by
  rcases h with h | ⟨i, es, e, h1, h2⟩
  · cases h with
    | tup h a => exact ⟨_, _, rfl, h, a⟩
  · cases e
theorem RelP.int {v : V} {i : Int} (h : RelP Y ρ FH H σ' σ v (.int i)) : v = .int i := by
  rcases h with h | ⟨_, _, e, _⟩
  · cases h
    rfl
  · cases e
theorem RelP.str {v : V} {x : Str} (h : RelP Y ρ FH H σ' σ v (.str x)) : v = .str x := by
  rcases h with h | ⟨_, _, e, _⟩
  · cases h
    rfl
  · cases e
theorem RelP.bl {v : V} {b : Bool} (h : RelP Y ρ FH H σ' σ v (.bool b)) : v = .bl b := by
  rcases h with h | ⟨_, _, e, _⟩
  · cases h
    rfl
  · cases e
theorem RelP.non {v : V} (h : RelP Y ρ FH H σ' σ v .none) : v = .non := by
  rcases h with h | ⟨_, _, e, _⟩
  · cases h
    rfl
  · cases e
theorem RelP.dq {v : V} {d : D} (R : Rep Y ρ FH H σ' σ g) (h : RelP Y ρ FH H σ' σ v d) : Dq Y.K H v d := by
  rcases h with h | ⟨i, ds, e, h1, h2⟩
  · exact Dq.up R.sub d h
  · subst e
    obtain ⟨p, vs, q1, q2, q3, q4, _⟩ := R.ow i _ h1
    rw [h2] at q1
    cases q1
    exact .lst (.inl q3) (DqAll.up R.sub ds q4)
theorem RelP.dp {v : V} {d : D} (R : Rep Y ρ FH H σ' σ g) (h : RelP Y ρ FH H σ' σ v d) : L2.Dp Y.K H v d := Dq.dp d (h.dq R)
theorem NewRes.own {v : V} {sv : SV} (n : NewRes Y.K FH H FH2 H2 v sv) (R : Rep Y ρ FH H σ' σ g) : RelO Y ρ FH2 H2 σ' σ v sv := by
  cases sv with
  | fz d => exact n.1
  | ow ds =>
    obtain ⟨rfl, p, vs, hn, rfl, rfl, a⟩ := n
    exact ⟨p, vs, rfl, R.sub.free hn, upd_same, a, R.old hn, R.cellNe hn, R.slotNe hn, R.pdNe hn⟩
  | deal => exact n.elim
  | nd _ _ _ => exact n.elim

variable {te ta tb tc : TE} {f f1 f2 f3 : Ev D} {fo : Ev SV}
/-! ### from own to frozen, to looked at -/
theorem snd_cD (h : SndE Y (RelO Y) te fo) : SndE Y (RelD Y) te (cD fo) := by
  intro ρ FH H σ' σ g Q R hg
  refine h ρ FH H σ' σ g Q R (hg.bind.mono fun sv σ2 g2 q v FH2 H2 R2 S E rel => ?_)
  obtain ⟨d, e, q⟩ := q.lift
  cases sv with
  | fz d' =>
    simp only [dOf, Option.some.injEq] at e
    subst e
    exact q v FH2 H2 R2 S E rel
  | ow ds =>
    simp only [dOf, Option.some.injEq] at e
    subst e
    obtain ⟨p, vs, rfl, F⟩ := rel
    exact q _ _ H2 (R2.freeze F) (S.trans (Sub.new F.f)) E (dq_frozen F.f F.a)
  | deal => simp [dOf] at e
  | nd _ _ _ => simp [dOf] at e
theorem snd_P (h : SndE Y (RelD Y) te f) : SndE Y (RelP Y) te f := by
  intro ρ FH H σ' σ g Q R hg
  exact h ρ FH H σ' σ g Q R (hg.mono fun d σ2 g2 q v FH2 H2 R2 S E rel => q v FH2 H2 R2 S E (.inl rel))
/-! ### names, constants -/
theorem snd_cVP {i : Nat} : SndE Y (RelP Y) (tVar i) (cVP i) := by
  intro ρ FH H σ' σ g Q R hg
  unfold cVP at hg
  split at hg
  · rename_i d e
    obtain ⟨v, h1, h2⟩ := R.fz i d e
    exact ⟨v, h1, hg v FH H R (Sub.refl _) (Evo.refl _) (.inl h2)⟩
  · rename_i ds e
    obtain ⟨p, vs, h1, _⟩ := R.ow i ds e
    exact ⟨_, h1, hg _ FH H R (Sub.refl _) (Evo.refl _) (.inr ⟨i, ds, rfl, e, h1⟩)⟩
  · exact hg.elim
theorem snd_cVE {i : Nat} : SndE Y (RelO Y) (tVar i) (cVE i) := by
  intro ρ FH H σ' σ g Q R hg
  unfold cVE at hg
  split at hg
  · rename_i d e
    obtain ⟨v, h1, h2⟩ := R.fz i d e
    exact ⟨v, h1, hg v FH H R (Sub.refl _) (Evo.refl _) h2⟩
  · rename_i ds e
    obtain ⟨p, vs, h1, h2, R2, h3⟩ := R.freezeSlot e
    exact ⟨_, h1, hg _ _ H R2 (Sub.new h2) (evo_set e) h3⟩
  · rename_i e
    obtain ⟨dl, c, h1, h2⟩ := R.dl i e
    exact ⟨_, h2, hg _ FH H R (Sub.refl _) (Evo.refl _) ⟨dl, c, h1, rfl⟩⟩
  · exact hg.elim
theorem snd_cK {v : V} {d : D} (h : Dq Y.K (fun _ => none) v d) : SndE Y (RelO Y) (tC v) (cK d) := by
  intro ρ FH H σ' σ g Q R hg
  exact hg v FH H R (Sub.refl _) (Evo.refl _) (Dq.up (fun _ _ e => by cases e) d h)
/-! ### operations -/
def Op1 (Y : Yx) (r : V → Hp → VK → Prop) (op : D → Option SV) : Prop := ∀ (ρ : Rho) (FH H : Hp) (σ' : St) (σ : Sl) (g : G) (v : V) (d : D) (sv : SV) (Q : VK), Rep Y ρ FH H σ' σ g → RelP Y ρ FH H σ' σ v d → op d = some sv →
  (∀ v2 FH2 H2, NewRes Y.K FH H FH2 H2 v2 sv → Q v2 H2) → r v H Q
def Op2 (Y : Yx) (r : R2) (op : D → D → Option SV) : Prop := ∀ (ρ : Rho) (FH H : Hp) (σ' : St) (σ : Sl) (g : G) (v u : V) (d e : D) (sv : SV) (Q : VK), Rep Y ρ FH H σ' σ g → RelP Y ρ FH H σ' σ v d → RelP Y ρ FH H σ' σ u e → op d e = some sv →
  (∀ v2 FH2 H2, NewRes Y.K FH H FH2 H2 v2 sv → Q v2 H2) → r v u H Q
def OpB (Y : Yx) (r : R2) (op : D → D → Option Bool) : Prop := ∀ (ρ : Rho) (FH H : Hp) (σ' : St) (σ : Sl) (g : G) (v u : V) (d e : D) (b : Bool) (Q : VK), Rep Y ρ FH H σ' σ g → RelP Y ρ FH H σ' σ v d → RelP Y ρ FH H σ' σ u e → op d e = some b →
  Q (.bl b) H → r v u H Q
theorem snd_c1 {r : V → Hp → VK → Prop} {op : D → Option SV} (ha : SndE Y (RelP Y) ta f) (ho : Op1 Y r op) : SndE Y (RelO Y) (tUn r ta) (c1 op f) := by
  intro ρ FH H σ' σ g Q R hg
  refine ha ρ FH H σ' σ g _ R (hg.bind.mono fun d σ2 g2 q v FH2 H2 R2 S E rel => ?_)
  obtain ⟨sv, e, q⟩ := q.lift
  refine ho ρ FH2 H2 σ' σ2 g2 v d sv Q R2 rel e fun v2 FH3 H3 n => ?_
  obtain ⟨R3, S3⟩ := R2.res n
  exact q v2 FH3 H3 R3 (S.trans S3) E (n.own R2)
theorem snd_c2 {r : R2} {op : D → D → Option SV} (ha : SndE Y (RelP Y) ta f1) (hb : SndE Y (RelP Y) tb f2) (ho : Op2 Y r op) : SndE Y (RelO Y) (tOp r ta tb) (c2 op f1 f2) := by
  intro ρ FH H σ' σ g Q R hg
  refine ha ρ FH H σ' σ g _ R (hg.bind.mono fun d σ2 g2 q v FH2 H2 R2 S E rel => ?_)
  refine hb ρ FH2 H2 σ' σ2 g2 _ R2 (q.bind.mono fun e σ3 g3 q u FH3 H3 R3 S3 E3 rel3 => ?_)
  obtain ⟨sv, eq, q⟩ := q.lift
  refine ho ρ FH3 H3 σ' σ3 g3 v u d e sv Q R3 (rel.up S3 E3 R3) rel3 eq fun v2 FH4 H4 n => ?_
  obtain ⟨R4, S4⟩ := R3.res n
  exact q v2 FH4 H4 R4 ((S.trans S3).trans S4) (E.trans E3) (n.own R3)
/-- a comparison, as a value that is a bool -/
def RelB (Y : Yx) : RelT Bool := fun _ _ _ _ _ v b => v = .bl b
theorem snd_cCmp {r : R2} {op : D → D → Option Bool} (ha : SndE Y (RelP Y) ta f1) (hb : SndE Y (RelP Y) tb f2) (ho : OpB Y r op) : SndE Y (RelB Y) (tOp r ta tb) (cCmp op f1 f2) := by
  intro ρ FH H σ' σ g Q R hg
  refine ha ρ FH H σ' σ g _ R (hg.bind.mono fun d σ2 g2 q v FH2 H2 R2 S E rel => ?_)
  refine hb ρ FH2 H2 σ' σ2 g2 _ R2 (q.bind.mono fun e σ3 g3 q u FH3 H3 R3 S3 E3 rel3 => ?_)
  obtain ⟨b, eq, q⟩ := q.lift
  exact ho ρ FH3 H3 σ' σ3 g3 v u d e b Q R3 (rel.up S3 E3 R3) rel3 eq (q _ FH3 H3 R3 (S.trans S3) (E.trans E3) rfl)
theorem snd_cB {fb : Ev Bool} (h : SndE Y (RelB Y) te fb) : SndE Y (RelO Y) te (cB fb) := by
  intro ρ FH H σ' σ g Q R hg
  refine h ρ FH H σ' σ g Q R (hg.bind.mono fun b σ2 g2 q v FH2 H2 R2 S E rel => ?_)
  have e : v = .bl b := rel
  subst e
  exact q _ FH2 H2 R2 S E (Dq.bl b)
/-- as a test -/
theorem snd_tTest {fb : Ev Bool} (h : SndE Y (RelB Y) te fb) : SndT Y (L2.tTest te) fb := by
  intro ρ FH H σ' σ g Q R hg
  refine h ρ FH H σ' σ g _ R (hg.mono fun b σ2 g2 q v FH2 H2 R2 S E rel => ?_)
  exact ⟨b, rel, q FH2 H2 R2 S E⟩
theorem snd_cChain {r r' : R2} {op op' : D → D → Option Bool} (ha : SndE Y (RelP Y) ta f1) (hb : SndE Y (RelP Y) tb f2) (hc : SndE Y (RelP Y) tc f3) (ho : OpB Y r op) (ho' : OpB Y r' op') : SndE Y (RelB Y) (L2.tChain r r' ta tb tc) (cChain op op' f1 f2 f3) := by
  intro ρ FH H σ' σ g Q R hg
  refine ha ρ FH H σ' σ g _ R (hg.bind.mono fun d σ2 g2 q v FH2 H2 R2 S E rel => ?_)
  refine hb ρ FH2 H2 σ' σ2 g2 _ R2 (q.bind.mono fun e σ3 g3 q u FH3 H3 R3 S3 E3 rel3 => ?_)
  obtain ⟨b, eq, q⟩ := q.bind.lift
  refine ho ρ FH3 H3 σ' σ3 g3 v u d e b _ R3 (rel.up S3 E3 R3) rel3 eq ⟨b, rfl, ?_⟩
  cases b with
  | false =>
    rw [if_neg Bool.false_ne_true] at q ⊢
    exact q _ FH3 H3 R3 (S.trans S3) (E.trans E3) rfl
  | true =>
    rw [if_pos rfl] at q ⊢
    refine hc ρ FH3 H3 σ' σ3 g3 _ R3 (q.bind.mono fun x σ4 g4 q w FH4 H4 R4 S4 E4 rel4 => ?_)
    obtain ⟨b2, eq2, q⟩ := q.lift
    exact ho' ρ FH4 H4 σ' σ4 g4 u w e x b2 Q R4 (rel3.up S4 E4 R4) rel4 eq2 (q _ FH4 H4 R4 ((S.trans S3).trans S4) ((E.trans E3).trans E4) rfl)
/-! ### tests -/
section
variable {t u : TT} {b1 b2 : Ev Bool}
theorem snd_cAnd (ha : SndT Y t b1) (hb : SndT Y u b2) : SndT Y (L2.tAnd t u) (cAnd b1 b2) := by
  intro ρ FH H σ' σ g Q R hg
  refine ha ρ FH H σ' σ g _ R (hg.bind.mono fun p σ2 g2 q FH2 H2 R2 S E => ?_)
  cases p with
  | true =>
    rw [if_pos rfl] at q ⊢
    exact hb ρ FH2 H2 σ' σ2 g2 Q R2 (q.mono fun p σ3 g3 q FH3 H3 R3 S3 E3 => q FH3 H3 R3 (S.trans S3) (E.trans E3))
  | false =>
    rw [if_neg Bool.false_ne_true] at q ⊢
    exact q FH2 H2 R2 S E
theorem snd_cOr (ha : SndT Y t b1) (hb : SndT Y u b2) : SndT Y (L2.tOr t u) (cOr b1 b2) := by
  intro ρ FH H σ' σ g Q R hg
  refine ha ρ FH H σ' σ g _ R (hg.bind.mono fun p σ2 g2 q FH2 H2 R2 S E => ?_)
  cases p with
  | false =>
    rw [if_neg Bool.false_ne_true] at q ⊢
    exact hb ρ FH2 H2 σ' σ2 g2 Q R2 (q.mono fun p σ3 g3 q FH3 H3 R3 S3 E3 => q FH3 H3 R3 (S.trans S3) (E.trans E3))
  | true =>
    rw [if_pos rfl] at q ⊢
    exact q FH2 H2 R2 S E
theorem snd_cNot (ha : SndT Y t b1) : SndT Y (L2.tNot t) (cNot b1) := by
  intro ρ FH H σ' σ g Q R hg
  exact ha ρ FH H σ' σ g _ R (hg.bind.mono fun p σ2 g2 q FH2 H2 R2 S E => q FH2 H2 R2 S E)
theorem snd_cIteE {α : Type} {Rl : RelT α} {fa fb : Ev α} (ht : SndT Y t b1) (ha : SndE Y Rl ta fa) (hb : SndE Y Rl tb fb) : SndE Y Rl (L2.tIf t ta tb) (cIte b1 fa fb) := by
  intro ρ FH H σ' σ g Q R hg
  refine ht ρ FH H σ' σ g _ R (hg.bind.mono fun p σ2 g2 q FH2 H2 R2 S E => ?_)
  cases p with
  | true =>
    rw [if_pos rfl] at q ⊢
    exact ha ρ FH2 H2 σ' σ2 g2 Q R2 (q.mono fun p σ3 g3 q v FH3 H3 R3 S3 E3 => q v FH3 H3 R3 (S.trans S3) (E.trans E3))
  | false =>
    rw [if_neg Bool.false_ne_true] at q ⊢
    exact hb ρ FH2 H2 σ' σ2 g2 Q R2 (q.mono fun p σ3 g3 q v FH3 H3 R3 S3 E3 => q v FH3 H3 R3 (S.trans S3) (E.trans E3))
/-- the values of and, or, not where all parts are bools -/
theorem snd_andV (ha : SndE Y (RelB Y) ta b1) (hb : SndE Y (RelB Y) tb b2) : SndE Y (RelB Y) (L2.tAndV ta tb) (cAnd b1 b2) := by
  intro ρ FH H σ' σ g Q R hg
  refine ha ρ FH H σ' σ g _ R (hg.bind.mono fun p σ2 g2 q v FH2 H2 R2 S E rel => ⟨p, rel, ?_⟩)
  cases p with
  | true =>
    rw [if_pos rfl] at q ⊢
    exact hb ρ FH2 H2 σ' σ2 g2 Q R2 (q.mono fun p σ3 g3 q v FH3 H3 R3 S3 E3 => q v FH3 H3 R3 (S.trans S3) (E.trans E3))
  | false =>
    rw [if_neg Bool.false_ne_true] at q ⊢
    exact q _ FH2 H2 R2 S E rfl
theorem snd_orV (ha : SndE Y (RelB Y) ta b1) (hb : SndE Y (RelB Y) tb b2) : SndE Y (RelB Y) (L2.tOrV ta tb) (cOr b1 b2) := by
  intro ρ FH H σ' σ g Q R hg
  refine ha ρ FH H σ' σ g _ R (hg.bind.mono fun p σ2 g2 q v FH2 H2 R2 S E rel => ⟨p, rel, ?_⟩)
  cases p with
  | false =>
    rw [if_neg Bool.false_ne_true] at q ⊢
    exact hb ρ FH2 H2 σ' σ2 g2 Q R2 (q.mono fun p σ3 g3 q v FH3 H3 R3 S3 E3 => q v FH3 H3 R3 (S.trans S3) (E.trans E3))
  | true =>
    rw [if_pos rfl] at q ⊢
    exact q _ FH2 H2 R2 S E rfl
theorem snd_notV (ha : SndE Y (RelB Y) ta b1) : SndE Y (RelB Y) (L2.tNotV ta) (cNot b1) := by
  intro ρ FH H σ' σ g Q R hg
  exact ha ρ FH H σ' σ g _ R (hg.bind.mono fun p σ2 g2 q v FH2 H2 R2 S E rel => ⟨p, rel, q _ FH2 H2 R2 S E rfl⟩)
end
/-! ### truth -/
theorem tru_of {d : D} {v : V} {k : Bool} (R : Rep Y ρ FH H σ' σ g) (rel : RelP Y ρ FH H σ' σ v d) (e : pyTruth d = some k) : L2.TruV Y.K v H k := by
  cases d with
  | none =>
    cases rel.non
    simp only [pyTruth, Option.some.injEq] at e
    exact e.symm
  | bool b =>
    cases rel.bl
    simp only [pyTruth, Option.some.injEq] at e
    exact e.symm
  | int i =>
    cases rel.int
    simp only [pyTruth, Option.some.injEq] at e
    exact e.symm
  | str x =>
    cases rel.str
    simp only [pyTruth] at e
    split at e
    · rename_i h
      cases e
      exact ⟨h, rfl⟩
    · cases e
  | list ds =>
    obtain ⟨p, vs, rfl, h1, h2⟩ := rel.list R
    simp only [pyTruth, Option.some.injEq] at e
    refine .inl ⟨vs, .inl h1, ?_⟩
    rw [← e]
    cases h2 <;> rfl
  | tuple ds =>
    obtain ⟨p, vs, rfl, h1, h2⟩ := rel.tup
    simp only [pyTruth, Option.some.injEq] at e
    refine .inr (.inl ⟨vs, R.sub.sqt h1, ?_⟩)
    rw [← e]
    cases h2 <;> rfl
  | dict _ => simp [pyTruth] at e
theorem snd_cTru (ha : SndE Y (RelP Y) ta f) : SndT Y (fun σ H Q => ta σ H fun x H' => ∃ k, L2.TruV Y.K x H' k ∧ Q k H') (cTru f) := by
  intro ρ FH H σ' σ g Q R hg
  refine ha ρ FH H σ' σ g _ R (hg.bind.mono fun d σ2 g2 q v FH2 H2 R2 S E rel => ?_)
  obtain ⟨k, e, q⟩ := q.lift
  exact ⟨k, tru_of R2 rel e, q FH2 H2 R2 S E⟩
/-! ### several -/
theorem snd_cNil : SndA Y tNil cNil := by
  intro ρ FH H σ' σ g Q R hg
  exact hg [] FH H R (Sub.refl _) (Evo.refl _) .nil
theorem snd_cCons {t : TA} {r : Ev (List D)} (ha : SndE Y (RelD Y) te f) (hr : SndA Y t r) : SndA Y (tCons te t) (cCons f r) := by
  intro ρ FH H σ' σ g Q R hg
  refine ha ρ FH H σ' σ g _ R (hg.bind.mono fun d σ2 g2 q v FH2 H2 R2 S E rel => ?_)
  refine hr ρ FH2 H2 σ' σ2 g2 _ R2 (q.bind.mono fun ds σ3 g3 q vs FH3 H3 R3 S3 E3 rel3 => ?_)
  exact q _ FH3 H3 R3 (S.trans S3) (E.trans E3) (.cons (Dq.up S3 d rel) rel3)
theorem snd_cTup {t : TA} {r : Ev (List D)} (hr : SndA Y t r) : SndE Y (RelO Y) (L2.tTup t) (cTup r) := by
  intro ρ FH H σ' σ g Q R hg
  refine hr ρ FH H σ' σ g _ R (hg.bind.mono fun ds σ2 g2 q vs FH2 H2 R2 S E rel => ?_)
  obtain ⟨sv, e, q⟩ := q.lift
  split at e
  · rename_i hl
    cases e
    refine ⟨by rw [rel.len]; exact hl, fun p hn => ?_⟩
    have hf := R2.sub.free hn
    exact q _ _ _ (R2.newF hn) (S.trans (Sub.new hf)) E (.tup (.inl (.inl upd_same)) (DqAll.up (Sub.new hf) ds rel))
  · cases e
theorem snd_cLst {t : TA} {r : Ev (List D)} (hr : SndA Y t r) : SndE Y (RelO Y) (L2.tLst t) (cLst r) := by
  intro ρ FH H σ' σ g Q R hg
  refine hr ρ FH H σ' σ g _ R (hg.bind.mono fun ds σ2 g2 q vs FH2 H2 R2 S E rel => ?_)
  obtain ⟨sv, e, q⟩ := q.lift
  split at e
  · rename_i hl
    cases e
    refine ⟨by rw [rel.len]; exact hl, fun p hn => ?_⟩
    exact q _ _ _ (R2.newL hn) S E ⟨p, vs, rfl, R2.sub.free hn, upd_same, rel, R2.old hn, R2.cellNe hn, R2.slotNe hn, R2.pdNe hn⟩
  · cases e
/-! ### slices -/
def SndB (Y : Yx) (tl : L2.TO) (f : Ev (Option Int)) : Prop :=
  ∀ (ρ : Rho) (FH H : Hp) (σ' : St) (σ : Sl) (g : G) (Q : Option Int → Hp → Prop), Rep Y ρ FH H σ' σ g → Good Y (f σ g) (fun b σ2 g2 => ∀ FH2 H2, Rep Y ρ FH2 H2 σ' σ2 g2 → Sub FH FH2 → Evo σ σ2 → Q b H2) → tl σ' H Q
theorem snd_noB : SndB Y L2.tNoPart cNoB := fun ρ FH H σ' σ g Q R hg => hg FH H R (Sub.refl _) (Evo.refl _)
theorem snd_cBd (ha : SndE Y (RelP Y) ta f) : SndB Y (L2.tPart ta) (cBd f) := by
  intro ρ FH H σ' σ g Q R hg
  refine ha ρ FH H σ' σ g _ R (hg.bind.mono fun d σ2 g2 q v FH2 H2 R2 S E rel => ?_)
  obtain ⟨o, e, q⟩ := q.lift
  cases d with
  | int i =>
    simp only [intOf, Option.map_some, Option.some.injEq] at e
    subst e
    exact ⟨i, rel.int, q FH2 H2 R2 S E⟩
  | _ => simp [intOf] at e
def OpS (Y : Yx) (r : V → Option Int → Option Int → Hp → VK → Prop) : Prop := ∀ (ρ : Rho) (FH H : Hp) (σ' : St) (σ : Sl) (g : G) (v : V) (lo hi : Option Int) (d : D) (sv : SV) (Q : VK), Rep Y ρ FH H σ' σ g → RelP Y ρ FH H σ' σ v d → pySlice d lo hi = some sv →
  (∀ v2 FH2 H2, NewRes Y.K FH H FH2 H2 v2 sv → Q v2 H2) → r v lo hi H Q
theorem snd_cSlice {r : V → Option Int → Option Int → Hp → VK → Prop} {tl th : L2.TO} {lo hi : Ev (Option Int)} (ha : SndE Y (RelP Y) ta f) (hl : SndB Y tl lo) (hh : SndB Y th hi) (ho : OpS Y r) : SndE Y (RelO Y) (L2.tSl r ta tl th) (cSlice f lo hi) := by
  intro ρ FH H σ' σ g Q R hg
  refine ha ρ FH H σ' σ g _ R (hg.bind.mono fun d σ2 g2 q v FH2 H2 R2 S E rel => ?_)
  refine hl ρ FH2 H2 σ' σ2 g2 _ R2 (q.bind.mono fun l σ3 g3 q FH3 H3 R3 S3 E3 => ?_)
  refine hh ρ FH3 H3 σ' σ3 g3 _ R3 (q.bind.mono fun h σ4 g4 q FH4 H4 R4 S4 E4 => ?_)
  obtain ⟨sv, e, q⟩ := q.lift
  refine ho ρ FH4 H4 σ' σ4 g4 v l h d sv Q R4 ((rel.up S3 E3 R3).up S4 E4 R4) e fun v2 FH5 H5 n => ?_
  obtain ⟨R5, S5⟩ := R4.res n
  exact q v2 FH5 H5 R5 (((S.trans S3).trans S4).trans S5) ((E.trans E3).trans E4) (n.own R4)
end
end
end FD
/-! FD5: each operation on data, by the layer's rule. -/
namespace FD
noncomputable section
open PySem
open L2 (Hp HO V upd upd_same upd_ne ne_of_none Rd SqL SqT Vals RelV VK TE TT TA TS TG TGs St XK Cx PE PT PW PA PS PSs PG PGs PI Inv OpR UnR CallR R2 rI0 rI tOp tUn tVar tC tCB tCons tNil SlR IxR MtR)

/-- a result that makes nothing -/
theorem res0 {K : PySem.W.Frag} {FH H : Hp} {v : V} {d : D} (h : Dq K FH v d) : NewRes K FH H FH H v (.fz d) := ⟨h, .inl ⟨rfl, rfl⟩⟩
theorem resInt {K : PySem.W.Frag} {FH H : Hp} (i : Int) : NewRes K FH H FH H (.int i) (.fz (.int i)) := res0 (.int i)
theorem resTup {K : PySem.W.Frag} {FH H : Hp} {p : Addr} {vs : List V} {ds : List D} (hn : H p = none) (s : Sub FH H) (a : DqAll K FH vs ds) : NewRes K FH H (upd FH p (.tup vs)) (upd H p (.tup vs)) (.ref p) (.fz (.tuple ds)) :=
  ⟨.tup (.inl (.inl upd_same)) (DqAll.up (Sub.new (s.free hn)) ds a), .inr ⟨p, _, hn, rfl, rfl⟩⟩
theorem resLst {K : PySem.W.Frag} {FH H : Hp} {p : Addr} {vs : List V} {ds : List D} (hn : H p = none) (a : DqAll K FH vs ds) : NewRes K FH H FH (upd H p (.lst vs)) (.ref p) (.ow ds) :=
  ⟨rfl, p, vs, hn, rfl, rfl, a⟩

section
variable {Y : Yx} {X : Cx}
/-! ### arithmetic -/
def rAdd (K : PySem.W.Frag) : R2 := fun x y H Q => rI0 (fun i j => .int (i + j)) x y H Q ∨ (∃ i j, x = .str i ∧ y = .str j ∧ i.length + j.length ≤ sizeLine ∧ Q (.str (i ++ j)) H) ∨ L2.rCatA K x y H Q ∨ rCatL x y H Q
theorem op_add : OpR X (binaryOp .Add) (rAdd X.K) := L2.op_add.or (L2.op_add_str.or (L2.op_catA.or op_catL))
theorem sl16 : (sizeLine : Nat) = 16777216 := sizeLine_eq
theorem o2_add : Op2 Y (rAdd Y.K) pyAdd := by
  intro ρ FH H σ' σ g v u d e sv Q R hd he eq k
  cases d with
  | int i =>
    cases e with
    | int j =>
      simp only [pyAdd, sInt, Option.some.injEq] at eq
      subst eq
      exact .inl ⟨i, j, hd.int, he.int, k _ FH H (resInt _)⟩
    | _ => simp [pyAdd] at eq
  | str x =>
    cases e with
    | str y =>
      simp only [pyAdd] at eq
      split at eq
      · rename_i hl
        cases eq
        exact .inr (.inl ⟨x, y, hd.str, he.str, by rw [sl16]; exact hl, k _ FH H (res0 (.str _))⟩)
      · cases eq
    | _ => simp [pyAdd] at eq
  | tuple xs =>
    cases e with
    | tuple ys =>
      simp only [pyAdd] at eq
      split at eq
      · rename_i hl
        cases eq
        obtain ⟨p, vs, rfl, h1, h2⟩ := hd.tup
        obtain ⟨q, ws, rfl, h3, h4⟩ := he.tup
        refine .inr (.inr (.inl ⟨p, q, vs, ws, rfl, rfl, R.sub.sqt h1, R.sub.sqt h3, by rw [sl16, h2.len, h4.len]; exact hl, fun e => ?_, fun e1 e2 => ?_, fun e1 e2 z hn => ?_⟩))
        · have e' := h2.nil_iff.mp e
          subst e'
          exact k _ FH H (res0 (.tup h3 h4))
        · have e' := h4.nil_iff.mp e2
          subst e'
          rw [List.append_nil] at k
          exact k _ FH H (res0 (.tup h1 h2))
        · exact k _ _ _ (resTup hn R.sub (h2.app h4))
      · cases eq
    | _ => simp [pyAdd] at eq
  | list xs =>
    cases e with
    | list ys =>
      simp only [pyAdd] at eq
      split at eq
      · rename_i hl
        cases eq
        obtain ⟨p, vs, rfl, h1, h2⟩ := hd.list R
        obtain ⟨q, ws, rfl, h3, h4⟩ := he.list R
        exact .inr (.inr (.inr ⟨p, q, vs, ws, rfl, rfl, h1, h3, by rw [sl16, h2.len, h4.len]; exact hl, fun z hn => k _ _ _ (resLst hn (h2.app h4))⟩))
      · cases eq
    | _ => simp [pyAdd] at eq
  | _ => cases e <;> simp [pyAdd] at eq
def rSub : R2 := rI0 fun i j => .int (i - j)
theorem op_sub : OpR X (binaryOp .Sub) rSub := L2.op_sub
theorem o2_sub : Op2 Y rSub pySub := by
  intro ρ FH H σ' σ g v u d e sv Q R hd he eq k
  cases d with
  | int i =>
    cases e with
    | int j =>
      simp only [pySub, sInt, Option.some.injEq] at eq
      subst eq
      exact ⟨i, j, hd.int, he.int, k _ FH H (resInt _)⟩
    | _ => simp [pySub] at eq
  | _ => cases e <;> simp [pySub] at eq
def rMul (K : PySem.W.Frag) : R2 := fun x y H Q => rI L2.CMulW (fun i j => .int (i * j)) x y H Q ∨ rRepU K x y H Q ∨ rRepL x y H Q
theorem op_mul : OpR X (binaryOp .Mult) (rMul X.K) := L2.op_mulW.or (op_repU.or op_repL)
theorem o2_mul : Op2 Y (rMul Y.K) pyMul := by
  intro ρ FH H σ' σ g v u d e sv Q R hd he eq k
  cases d with
  | int i =>
    cases e with
    | int j =>
      simp only [pyMul] at eq
      split at eq
      · rename_i hm
        simp only [sInt, Option.some.injEq] at eq
        subst eq
        exact .inl ⟨i, j, hd.int, he.int, hm, k _ FH H (resInt _)⟩
      · cases eq
    | _ => simp [pyMul] at eq
  | tuple xs =>
    cases e with
    | int j =>
      simp only [pyMul] at eq
      split at eq
      · rename_i hm
        cases eq
        obtain ⟨p, vs, rfl, h1, h2⟩ := hd.tup
        refine .inr (.inl ⟨p, j, vs, rfl, he.int, R.sub.sqt h1, fun z => hm.1 (h2.nil_iff.mp z), hm.2.1, hm.2.2.1, by rw [sl16, h2.len]; exact hm.2.2.2, fun q hn => k _ _ _ (resTup hn R.sub (h2.rep _))⟩)
      · cases eq
    | _ => simp [pyMul] at eq
  | list xs =>
    cases e with
    | int j =>
      simp only [pyMul] at eq
      split at eq
      · rename_i hm
        cases eq
        obtain ⟨p, vs, rfl, h1, h2⟩ := hd.list R
        have hm : -(2 ^ 62) ≤ j ∧ j < 2 ^ 62 ∧ xs.length * j.toNat ≤ 16777216 := hm
        exact .inr (.inr ⟨p, j, vs, rfl, he.int, h1, by omega, by omega, by rw [sl16, h2.len]; exact hm.2.2, fun q hn => k _ _ _ (resLst hn (h2.rep _))⟩)
      · cases eq
    | _ => simp [pyMul] at eq
  | _ => cases e <;> simp [pyMul] at eq
def rDiv : R2 := rI L2.CDivW fun i j => .int (i / j)
theorem op_div : OpR X (binaryOp .FloorDiv) rDiv := L2.op_fdivW
theorem o2_div : Op2 Y rDiv pyFloorDiv := by
  intro ρ FH H σ' σ g v u d e sv Q R hd he eq k
  cases d with
  | int i =>
    cases e with
    | int j =>
      simp only [pyFloorDiv] at eq
      split at eq
      · rename_i hm
        simp only [sInt, Option.some.injEq] at eq
        subst eq
        exact ⟨i, j, hd.int, he.int, hm, k _ FH H (resInt _)⟩
      · cases eq
    | _ => simp [pyFloorDiv] at eq
  | _ => cases e <;> simp [pyFloorDiv] at eq
def rMod : R2 := rI (fun _ j => j ≠ 0) fun i j => .int (i.fmod j)
theorem op_mod : OpR X (binaryOp .Mod) rMod := L2.op_modN
theorem o2_mod : Op2 Y rMod pyMod := by
  intro ρ FH H σ' σ g v u d e sv Q R hd he eq k
  cases d with
  | int i =>
    cases e with
    | int j =>
      simp only [pyMod] at eq
      split at eq
      · cases eq
      · rename_i hm
        simp only [sInt, Option.some.injEq] at eq
        subst eq
        exact ⟨i, j, hd.int, he.int, hm, k _ FH H (resInt _)⟩
    | _ => simp [pyMod] at eq
  | _ => cases e <;> simp [pyMod] at eq
def rPow : R2 := rI L2.CPow fun i j => .int (i ^ j.toNat)
theorem op_pow : OpR X (binaryOp .Pow) rPow := L2.op_pow
theorem o2_pow : Op2 Y rPow pyPow := by
  intro ρ FH H σ' σ g v u d e sv Q R hd he eq k
  cases d with
  | int i =>
    cases e with
    | int j =>
      simp only [pyPow] at eq
      split at eq
      · rename_i hm
        simp only [sInt, Option.some.injEq] at eq
        subst eq
        exact ⟨i, j, hd.int, he.int, hm, k _ FH H (resInt _)⟩
      · cases eq
    | _ => simp [pyPow] at eq
  | _ => cases e <;> simp [pyPow] at eq
def rNeg : V → Hp → VK → Prop := L2.rU fun i => .int (-i)
theorem un_neg : UnR X (unaryOp .USub) rNeg := L2.un_neg
theorem o1_neg : Op1 Y rNeg pyNeg := by
  intro ρ FH H σ' σ g v d sv Q R hd eq k
  cases d with
  | int i =>
    simp only [pyNeg, sInt, Option.some.injEq] at eq
    subst eq
    exact ⟨i, hd.int, k _ FH H (resInt _)⟩
  | _ => simp [pyNeg] at eq
/-! ### comparisons -/
def rEqq (K : PySem.W.Frag) : R2 := fun x y H Q => L2.rEq x y H Q ∨ L2.rEqD K x y H Q
theorem op_eq (hu : X.A.units + 64 < cLine) : OpR X (compareOp .Eq) (rEqq X.K) := L2.op_eq.or (L2.op_eqD hu)
def rNee (K : PySem.W.Frag) : R2 := fun x y H Q => L2.rNe x y H Q ∨ L2.rNeD K x y H Q
theorem op_ne (hu : X.A.units + 64 < cLine) : OpR X (compareOp .NotEq) (rNee X.K) := L2.op_ne.or (L2.op_neD hu)
theorem eqOk_cases {d e : D} (h : eqOk d e = true) : (∃ i j, d = .int i ∧ e = .int j) ∨ (∃ i j, d = .str i ∧ e = .str j) ∨ (∃ i j, d = .bool i ∧ e = .bool j) ∨ (d = .none ∧ e = .none) ∨ (SeqAt.shaped d = true ∧ SeqAt.shaped e = true) := by
  unfold eqOk at h
  split at h
  · exact .inl ⟨_, _, rfl, rfl⟩
  · exact .inr (.inl ⟨_, _, rfl, rfl⟩)
  · exact .inr (.inr (.inl ⟨_, _, rfl, rfl⟩))
  · exact .inr (.inr (.inr (.inl ⟨rfl, rfl⟩)))
  · rw [Bool.and_eq_true] at h
    exact .inr (.inr (.inr (.inr h)))
theorem ob_eq : OpB Y (rEqq Y.K) pyEq := by
  intro ρ FH H σ' σ g v u d e b Q R hd he eq k
  unfold pyEq at eq
  split at eq
  · rename_i h
    cases eq
    rcases eqOk_cases h with ⟨i, j, rfl, rfl⟩ | ⟨i, j, rfl, rfl⟩ | ⟨i, j, rfl, rfl⟩ | ⟨rfl, rfl⟩ | ⟨h1, h2⟩
    · rw [hd.int, he.int]
      exact .inl ⟨rfl, by rw [L2.dec_int]; exact k⟩
    · rw [hd.str, he.str]
      exact .inl ⟨rfl, by rw [L2.dec_str]; exact k⟩
    · rw [hd.bl, he.bl]
      exact .inl ⟨rfl, by rw [L2.dec_bl]; exact k⟩
    · rw [hd.non, he.non]
      exact .inl ⟨rfl, k⟩
    · exact .inr ⟨d, e, hd.dp R, he.dp R, h1, h2, k⟩
  · cases eq
theorem ob_ne : OpB Y (rNee Y.K) pyNe := by
  intro ρ FH H σ' σ g v u d e b Q R hd he eq k
  unfold pyNe at eq
  split at eq
  · rename_i h
    cases eq
    rcases eqOk_cases h with ⟨i, j, rfl, rfl⟩ | ⟨i, j, rfl, rfl⟩ | ⟨i, j, rfl, rfl⟩ | ⟨rfl, rfl⟩ | ⟨h1, h2⟩
    · rw [hd.int, he.int]
      exact .inl ⟨rfl, by rw [L2.dec_int]; exact k⟩
    · rw [hd.str, he.str]
      exact .inl ⟨rfl, by rw [L2.dec_str]; exact k⟩
    · rw [hd.bl, he.bl]
      exact .inl ⟨rfl, by rw [L2.dec_bl]; exact k⟩
    · rw [hd.non, he.non]
      exact .inl ⟨rfl, k⟩
    · exact .inr ⟨d, e, hd.dp R, he.dp R, h1, h2, k⟩
  · cases eq
def rLt : R2 := rI0 fun i j => .bl (decide (i < j))
def rLe : R2 := rI0 fun i j => .bl (decide (i ≤ j))
def rGt : R2 := rI0 fun i j => .bl (decide (j < i))
def rGe : R2 := rI0 fun i j => .bl (decide (j ≤ i))
theorem ob_lt : OpB Y rLt pyLt := by
  intro ρ FH H σ' σ g v u d e b Q R hd he eq k
  cases d with
  | int i =>
    cases e with
    | int j =>
      simp only [pyLt, Option.some.injEq] at eq
      subst eq
      exact ⟨i, j, hd.int, he.int, k⟩
    | _ => simp [pyLt] at eq
  | _ => cases e <;> simp [pyLt] at eq
theorem ob_le : OpB Y rLe pyLe := by
  intro ρ FH H σ' σ g v u d e b Q R hd he eq k
  cases d with
  | int i =>
    cases e with
    | int j =>
      simp only [pyLe, Option.some.injEq] at eq
      subst eq
      exact ⟨i, j, hd.int, he.int, k⟩
    | _ => simp [pyLe] at eq
  | _ => cases e <;> simp [pyLe] at eq
theorem ob_gt : OpB Y rGt pyGt := by
  intro ρ FH H σ' σ g v u d e b Q R hd he eq k
  cases d with
  | int i =>
    cases e with
    | int j =>
      simp only [pyGt, Option.some.injEq] at eq
      subst eq
      exact ⟨i, j, hd.int, he.int, k⟩
    | _ => simp [pyGt] at eq
  | _ => cases e <;> simp [pyGt] at eq
theorem ob_ge : OpB Y rGe pyGe := by
  intro ρ FH H σ' σ g v u d e b Q R hd he eq k
  cases d with
  | int i =>
    cases e with
    | int j =>
      simp only [pyGe, Option.some.injEq] at eq
      subst eq
      exact ⟨i, j, hd.int, he.int, k⟩
    | _ => simp [pyGe] at eq
  | _ => cases e <;> simp [pyGe] at eq
def rIs : R2 := fun x y H Q => y = .non ∧ Q (.bl (decide (x = .non))) H
def rIsNot : R2 := fun x y H Q => y = .non ∧ Q (.bl (!decide (x = .non))) H
theorem non_iff {ρ : Rho} {FH H : Hp} {σ' : St} {σ : Sl} {g : G} {v : V} {d : D} (R : Rep Y ρ FH H σ' σ g) (h : RelP Y ρ FH H σ' σ v d) : decide (v = .non) = (match d with | .none => true | _ => false) := by
  have h := h.dq R
  cases h <;> rfl
theorem op_is : OpR X (compareOp .Is) rIs := L2.op_isN
theorem op_isnot : OpR X (compareOp .IsNot) rIsNot := L2.op_notN
theorem ob_is : OpB Y rIs pyIs := by
  intro ρ FH H σ' σ g v u d e b Q R hd he eq k
  cases e with
  | none =>
    refine ⟨he.non, ?_⟩
    rw [non_iff R hd]
    cases d <;> (simp only [pyIs, Option.some.injEq] at eq; subst eq; exact k)
  | _ => cases d <;> simp [pyIs] at eq
theorem ob_isnot : OpB Y rIsNot pyIsNot := by
  intro ρ FH H σ' σ g v u d e b Q R hd he eq k
  cases e with
  | none =>
    refine ⟨he.non, ?_⟩
    rw [non_iff R hd]
    cases d <;> (simp only [pyIsNot, Option.some.injEq] at eq; subst eq; exact k)
  | _ => cases d <;> simp [pyIsNot] at eq
def rInU (K : PySem.W.Frag) : R2 := fun x y H Q => ∃ d ds, L2.Dp K H x d ∧ L2.Dp K H y (.tuple ds) ∧ SeqAt.shaped d = true ∧ SeqAt.shaped (.tuple ds) = true ∧ Q (.bl (ds.any fun z => PyData.eqv z d)) H
def rNotInU (K : PySem.W.Frag) : R2 := fun x y H Q => ∃ d ds, L2.Dp K H x d ∧ L2.Dp K H y (.tuple ds) ∧ SeqAt.shaped d = true ∧ SeqAt.shaped (.tuple ds) = true ∧ Q (.bl (!ds.any fun z => PyData.eqv z d)) H
theorem room_in {ds : List D} {d : D} {n : Nat} (h : SeqAt.shaped d = true) (hu : n + 65 < cLine) : n + 1 + min (PyData.depthAll ds) d.depth < cLine := by
  have := SeqAt.depth_of_shaped h
  have := Nat.min_le_right (PyData.depthAll ds) d.depth
  omega
theorem op_inU (hu : X.A.units + 65 < cLine) : OpR X (compareOp .In) (rInU X.K) := by
  intro pins s σ H x y v u Q I rx ry h
  obtain ⟨d, ds, hd, he, sd, se, q⟩ := h
  obtain ⟨as, r1⟩ := L2.Dp.reads I d x v hd rx
  obtain ⟨bs, r2⟩ := L2.Dp.reads I (.tuple ds) y u he ry
  exact SeqAt.in_tuple_reads r2 r1 (SeqAt.canLay_of_shaped se) (SeqAt.canLay_of_shaped sd) (room_in sd hu) ⟨.bl _, H, I, rfl, q⟩
theorem op_notInU (hu : X.A.units + 65 < cLine) : OpR X (compareOp .NotIn) (rNotInU X.K) := by
  intro pins s σ H x y v u Q I rx ry h
  obtain ⟨d, ds, hd, he, sd, se, q⟩ := h
  obtain ⟨as, r1⟩ := L2.Dp.reads I d x v hd rx
  obtain ⟨bs, r2⟩ := L2.Dp.reads I (.tuple ds) y u he ry
  exact SeqAt.notIn_tuple_reads r2 r1 (SeqAt.canLay_of_shaped se) (SeqAt.canLay_of_shaped sd) (room_in sd hu) ⟨.bl _, H, I, rfl, q⟩
def rInn (K : PySem.W.Frag) : R2 := fun x y H Q => L2.rInD K x y H Q ∨ rInU K x y H Q ∨ (∃ i j, x = .str i ∧ y = .str j ∧ Q (.bl (!(Builtin.Str.occurrences j i 0 j.length 1).isEmpty)) H)
def rNotInn (K : PySem.W.Frag) : R2 := fun x y H Q => L2.rNotInD K x y H Q ∨ rNotInU K x y H Q ∨ (∃ i j, x = .str i ∧ y = .str j ∧ Q (.bl (!(!(Builtin.Str.occurrences j i 0 j.length 1).isEmpty))) H)
theorem op_in (hu : X.A.units + 65 < cLine) : OpR X (compareOp .In) (rInn X.K) := (L2.op_inD hu).or ((op_inU hu).or L2.op_in_str)
theorem op_notin (hu : X.A.units + 65 < cLine) : OpR X (compareOp .NotIn) (rNotInn X.K) := (L2.op_notInD hu).or ((op_notInU hu).or L2.op_notin_str)
theorem pyIn_cases {d e : D} {b : Bool} (h : pyIn d e = some b) : (∃ ds, e = .list ds ∧ SeqAt.shaped d = true ∧ SeqAt.shaped (.list ds) = true ∧ b = ds.any fun z => PyData.eqv z d) ∨
    (∃ ds, e = .tuple ds ∧ SeqAt.shaped d = true ∧ SeqAt.shaped (.tuple ds) = true ∧ b = ds.any fun z => PyData.eqv z d) ∨ ∃ i j, d = .str i ∧ e = .str j ∧ b = !(Builtin.Str.occurrences j i 0 j.length 1).isEmpty := by
  unfold pyIn at h
  split at h
  · split at h
    · rename_i q
      rw [Bool.and_eq_true] at q
      cases h
      exact .inl ⟨_, rfl, q.1, q.2, rfl⟩
    · cases h
  · split at h
    · rename_i q
      rw [Bool.and_eq_true] at q
      cases h
      exact .inr (.inl ⟨_, rfl, q.1, q.2, rfl⟩)
    · cases h
  · cases h
    exact .inr (.inr ⟨_, _, rfl, rfl, rfl⟩)
  · cases h
theorem ob_in : OpB Y (rInn Y.K) pyIn := by
  intro ρ FH H σ' σ g v u d e b Q R hd he eq k
  rcases pyIn_cases eq with ⟨ds, rfl, h1, h2, rfl⟩ | ⟨ds, rfl, h1, h2, rfl⟩ | ⟨i, j, rfl, rfl, rfl⟩
  · exact .inl ⟨d, ds, hd.dp R, he.dp R, h1, h2, k⟩
  · exact .inr (.inl ⟨d, ds, hd.dp R, he.dp R, h1, h2, k⟩)
  · exact .inr (.inr ⟨i, j, hd.str, he.str, k⟩)
theorem ob_notin : OpB Y (rNotInn Y.K) pyNotIn := by
  intro ρ FH H σ' σ g v u d e b Q R hd he eq k
  unfold pyNotIn at eq
  rw [Option.map_eq_some_iff] at eq
  obtain ⟨c, eq, rfl⟩ := eq
  rcases pyIn_cases eq with ⟨ds, rfl, h1, h2, rfl⟩ | ⟨ds, rfl, h1, h2, rfl⟩ | ⟨i, j, rfl, rfl, rfl⟩
  · exact .inl ⟨d, ds, hd.dp R, he.dp R, h1, h2, k⟩
  · exact .inr (.inl ⟨d, ds, hd.dp R, he.dp R, h1, h2, k⟩)
  · exact .inr (.inr ⟨i, j, hd.str, he.str, k⟩)
/-! ### items, slices -/
theorem ixN_eq (n : Nat) (i : Int) : ixN n i = L2.ixN n i := rfl
theorem atI_dq {K : PySem.W.Frag} {H : Hp} {vs : List V} {ds : List D} {i : Int} {d : D} (a : DqAll K H vs ds) (h : atI ds i = some d) : ∃ v, L2.atI vs i = some v ∧ Dq K H v d := by
  unfold atI at h
  unfold L2.atI
  rw [a.len]
  rw [← ixN_eq]
  cases e : ixN ds.length i with
  | none =>
    rw [e] at h
    cases h
  | some j =>
    rw [e] at h
    exact a.get h
theorem o2_ix : Op2 Y (L2.rIx Y.K) pyIx := by
  intro ρ FH H σ' σ g v u d e sv Q R hd he eq k
  cases d with
  | list ds =>
    cases e with
    | int i =>
      simp only [pyIx, Option.map_eq_some_iff] at eq
      obtain ⟨c, h1, rfl⟩ := eq
      obtain ⟨p, vs, rfl, h2, h3⟩ := hd.list R
      obtain ⟨w, h4, h5⟩ := atI_dq h3 h1
      exact .inl ⟨p, vs, i, w, rfl, he.int, .inl h2, h4, k _ FH H (res0 h5)⟩
    | _ => simp [pyIx] at eq
  | tuple ds =>
    cases e with
    | int i =>
      simp only [pyIx, Option.map_eq_some_iff] at eq
      obtain ⟨c, h1, rfl⟩ := eq
      obtain ⟨p, vs, rfl, h2, h3⟩ := hd.tup
      obtain ⟨w, h4, h5⟩ := atI_dq h3 h1
      exact .inr (.inl ⟨p, vs, i, w, rfl, he.int, R.sub.sqt h2, h4, k _ FH H (res0 h5)⟩)
    | _ => simp [pyIx] at eq
  | str x =>
    cases e with
    | int i =>
      simp only [pyIx] at eq
      split at eq
      · rename_i hl
        rw [Option.map_eq_some_iff] at eq
        obtain ⟨c, h1, rfl⟩ := eq
        exact .inr (.inr ⟨x, i, c, hd.str, he.int, by rw [sl16]; exact hl, h1, k _ FH H (res0 (.str _))⟩)
      · cases eq
    | _ => simp [pyIx] at eq
  | _ => cases e <;> simp [pyIx] at eq
def rSl (K : PySem.W.Frag) : V → Option Int → Option Int → Hp → VK → Prop := fun x lo hi H Q => L2.rSlL K x lo hi H Q ∨ L2.rSlA K x lo hi H Q ∨ L2.rSlS x lo hi H Q
theorem sl_any : SlR X (rSl X.K) := L2.sl_list.or (L2.sl_tupA.or L2.sl_str)
theorem cut_dq {K : PySem.W.Frag} {H : Hp} {vs : List V} {ds : List D} (a : DqAll K H vs ds) (lo hi : Option Int) : DqAll K H (L2.cutV vs lo hi) (cut ds lo hi) := by
  unfold L2.cutV cut
  rw [← a.len]
  exact (a.drop _).take _
theorem cut_whole {α : Type} {xs : List α} {lo hi : Option Int} (h : HT.sIx xs.length 0 lo = 0 ∧ HT.sIx xs.length xs.length hi = xs.length) : cut xs lo hi = xs := by
  have h1 : sIx xs.length 0 lo = 0 := h.1
  have h2 : sIx xs.length xs.length hi = xs.length := h.2
  unfold cut
  rw [h1, h2, List.drop_zero, Nat.sub_zero, List.take_length]
theorem os_sl : OpS Y (rSl Y.K) := by
  intro ρ FH H σ' σ g v lo hi d sv Q R hd eq k
  cases d with
  | list ds =>
    simp only [pySlice, Option.some.injEq] at eq
    subst eq
    obtain ⟨p, vs, rfl, h2, h3⟩ := hd.list R
    exact .inl ⟨p, vs, rfl, .inl h2, fun q hn => k _ _ _ (resLst hn (cut_dq h3 lo hi))⟩
  | tuple ds =>
    simp only [pySlice, Option.some.injEq] at eq
    subst eq
    obtain ⟨p, vs, rfl, h2, h3⟩ := hd.tup
    refine .inr (.inl ⟨p, vs, rfl, R.sub.sqt h2, fun e => ?_, fun e q hn => k _ _ _ (resTup hn R.sub (cut_dq h3 lo hi))⟩)
    rw [h3.len] at e
    rw [cut_whole e] at k
    exact k _ FH H (res0 (.tup h2 h3))
  | str x =>
    simp only [pySlice] at eq
    split at eq
    · rename_i hl
      cases eq
      refine .inr (.inr ⟨x, hd.str, by rw [sl16]; exact hl, ?_⟩)
      have e : L2.cutS x lo hi = ⟨(cut x.cps.toList lo hi).toArray⟩ := by
        show (⟨((x.cps.toList.drop (HT.sIx x.length 0 lo)).take (HT.sIx x.length x.length hi - HT.sIx x.length 0 lo)).toArray⟩ : Str) = _
        unfold cut
        rw [Array.length_toList]
        rfl
      rw [e]
      exact k _ FH H (res0 (.str _))
    · cases eq
  | _ => simp [pySlice] at eq
/-! ### built-in functions of one argument -/
def r1 (r : List V → Hp → VK → Prop) : V → Hp → VK → Prop := fun x H Q => r [x] H Q
def r2 (r : List V → Hp → VK → Prop) : R2 := fun x y H Q => r [x, y] H Q
def rLen (K : PySem.W.Frag) : List V → Hp → VK → Prop := fun xs H Q => ∃ x n, xs = [x] ∧ L2.LenV K x H n ∧ Q (.int n) H
theorem o1_len : Op1 Y (r1 (rLen Y.K)) pyLen := by
  intro ρ FH H σ' σ g v d sv Q R hd eq k
  cases d with
  | list ds =>
    simp only [pyLen, sInt, Option.some.injEq] at eq
    subst eq
    obtain ⟨p, vs, rfl, h2, h3⟩ := hd.list R
    exact ⟨_, vs.length, rfl, .inl ⟨vs, .inl h2, rfl⟩, by rw [h3.len]; exact k _ FH H (resInt _)⟩
  | tuple ds =>
    simp only [pyLen, sInt, Option.some.injEq] at eq
    subst eq
    obtain ⟨p, vs, rfl, h2, h3⟩ := hd.tup
    exact ⟨_, vs.length, rfl, .inr ⟨vs, R.sub.sqt h2, rfl⟩, by rw [h3.len]; exact k _ FH H (resInt _)⟩
  | str x =>
    simp only [pyLen] at eq
    split at eq
    · rename_i hl
      simp only [sInt, Option.some.injEq] at eq
      subst eq
      rw [hd.str]
      exact ⟨_, x.length, rfl, ⟨by rw [sl16]; exact hl, rfl⟩, k _ FH H (resInt _)⟩
    · cases eq
  | _ => simp [pyLen] at eq
def rAbs : List V → Hp → VK → Prop := fun xs H Q => ∃ i, xs = [.int i] ∧ Q (.int (if i < 0 then -i else i)) H
theorem o1_abs : Op1 Y (r1 rAbs) pyAbs := by
  intro ρ FH H σ' σ g v d sv Q R hd eq k
  cases d with
  | int i =>
    simp only [pyAbs, sInt, Option.some.injEq] at eq
    subst eq
    rw [hd.int]
    exact ⟨i, rfl, k _ FH H (resInt _)⟩
  | _ => simp [pyAbs] at eq
def rInt1 : List V → Hp → VK → Prop := fun xs H Q => (∃ i, xs = [.int i] ∧ Q (.int i) H) ∨ ∃ k, xs = [.bl k] ∧ Q (.int (if k then 1 else 0)) H
theorem o1_int : Op1 Y (r1 rInt1) pyInt := by
  intro ρ FH H σ' σ g v d sv Q R hd eq k
  cases d with
  | int i =>
    simp only [pyInt, sInt, Option.some.injEq] at eq
    subst eq
    rw [hd.int]
    exact .inl ⟨i, rfl, k _ FH H (resInt _)⟩
  | bool b =>
    simp only [pyInt, sInt, Option.some.injEq] at eq
    subst eq
    rw [hd.bl]
    exact .inr ⟨b, rfl, k _ FH H (resInt _)⟩
  | _ => simp [pyInt] at eq
def rStr1 : List V → Hp → VK → Prop := fun xs H Q => ∃ i, xs = [.int i] ∧ i.natAbs.log2 < 1920 ∧ Q (.str (toString i)) H
theorem o1_str : Op1 Y (r1 rStr1) pyStr := by
  intro ρ FH H σ' σ g v d sv Q R hd eq k
  cases d with
  | int i =>
    simp only [pyStr] at eq
    split at eq
    · rename_i hl
      cases eq
      rw [hd.int]
      exact ⟨i, rfl, hl, k _ FH H (res0 (.str _))⟩
    · cases eq
  | _ => simp [pyStr] at eq
theorem o1_sum : Op1 Y (r1 (L2.rSum Y.K)) pySum := by
  intro ρ FH H σ' σ g v d sv Q R hd eq k
  cases d with
  | list ds =>
    simp only [pySum, Option.map_eq_some_iff] at eq
    obtain ⟨ns, h1, rfl⟩ := eq
    obtain ⟨p, vs, rfl, h2, h3⟩ := hd.list R
    refine ⟨p, ns, rfl, .inl ?_, k _ FH H (resInt _)⟩
    rw [← h3.ints h1]
    exact h2
  | _ => simp [pySum] at eq
def rTup1 (K : PySem.W.Frag) : List V → Hp → VK → Prop := fun xs H Q => ∃ p ys, xs = [.ref p] ∧ ((SqL K H p ys ∧ ∀ l, H l = none → Q (.ref l) (upd H l (.tup ys))) ∨ (SqT K H p ys ∧ Q (.ref p) H))
theorem o1_tuple : Op1 Y (r1 (rTup1 Y.K)) pyTuple := by
  intro ρ FH H σ' σ g v d sv Q R hd eq k
  cases d with
  | list ds =>
    simp only [pyTuple, Option.some.injEq] at eq
    subst eq
    obtain ⟨p, vs, rfl, h2, h3⟩ := hd.list R
    exact ⟨p, vs, rfl, .inl ⟨.inl h2, fun l hn => k _ _ _ (resTup hn R.sub h3)⟩⟩
  | tuple ds =>
    simp only [pyTuple, Option.some.injEq] at eq
    subst eq
    obtain ⟨p, vs, rfl, h2, h3⟩ := hd.tup
    exact ⟨p, vs, rfl, .inr ⟨R.sub.sqt h2, k _ FH H (res0 (.tup h2 h3))⟩⟩
  | _ => simp [pyTuple] at eq
def rList1 (K : PySem.W.Frag) : List V → Hp → VK → Prop := fun xs H Q => ∃ p ys, xs = [.ref p] ∧ (SqL K H p ys ∨ SqT K H p ys) ∧ ∀ l, H l = none → Q (.ref l) (upd H l (.lst ys))
theorem o1_list : Op1 Y (r1 (rList1 Y.K)) pyList := by
  intro ρ FH H σ' σ g v d sv Q R hd eq k
  cases d with
  | list ds =>
    simp only [pyList, Option.some.injEq] at eq
    subst eq
    obtain ⟨p, vs, rfl, h2, h3⟩ := hd.list R
    exact ⟨p, vs, rfl, .inl (.inl h2), fun l hn => k _ _ _ (resLst hn h3)⟩
  | tuple ds =>
    simp only [pyList, Option.some.injEq] at eq
    subst eq
    obtain ⟨p, vs, rfl, h2, h3⟩ := hd.tup
    exact ⟨p, vs, rfl, .inr (R.sub.sqt h2), fun l hn => k _ _ _ (resLst hn h3)⟩
  | _ => simp [pyList] at eq
def rMin2 : List V → Hp → VK → Prop := fun xs H Q => ∃ i j, xs = [.int i, .int j] ∧ Q (.int (if j < i then j else i)) H
theorem o2_min : Op2 Y (r2 rMin2) pyMin2 := by
  intro ρ FH H σ' σ g v u d e sv Q R hd he eq k
  cases d with
  | int i =>
    cases e with
    | int j =>
      simp only [pyMin2, sInt, Option.some.injEq] at eq
      subst eq
      rw [hd.int, he.int]
      exact ⟨i, j, rfl, k _ FH H (resInt _)⟩
    | _ => simp [pyMin2] at eq
  | _ => cases e <;> simp [pyMin2] at eq
def rMax2 : List V → Hp → VK → Prop := fun xs H Q => ∃ i j, xs = [.int i, .int j] ∧ Q (.int (if j > i then j else i)) H
theorem o2_max : Op2 Y (r2 rMax2) pyMax2 := by
  intro ρ FH H σ' σ g v u d e sv Q R hd he eq k
  cases d with
  | int i =>
    cases e with
    | int j =>
      simp only [pyMax2, sInt, Option.some.injEq] at eq
      subst eq
      rw [hd.int, he.int]
      exact ⟨i, j, rfl, k _ FH H (resInt _)⟩
    | _ => simp [pyMax2] at eq
  | _ => cases e <;> simp [pyMax2] at eq
end
end
end FD
/-! FD6: what is walked; isinstance; index. -/
namespace FD
noncomputable section
open PySem PySem.W PySem.Spec PyProof.Rows
open L2 (Hp HO V upd upd_same upd_ne ne_of_none Rd SqL SqT Vals RelV VK TE TT TA TS TG TGs XK Cx PE PT PW PA PS PSs PG PGs PI PIE Inv OpR UnR CallR R2 rI0 rI tOp tUn tVar tC tCB tCons tNil SlR IxR MtR It Turn ObjOk TI EP Gl)

/-! ### enumerate over a tuple -/
theorem meets_enumerate_newU (l : Addr) (items : Array Value) (n : Nat) (dct : Option Addr) (sl : Array (Option Value)) :
    Meets (Builtin.«enumerate.__new__» ⟨[.type "enumerate", .ref l], []⟩) (fun _ R s => s.heap.get? l = some { cls := .type "tuple", dict := dct, data := .seq items n, slots := sl } ∧
      R (.ok (.ret (.ref (s.heap.push { cls := .type "tuple_iterator", data := .fields #[.ref l, .int 0 0] }).objs.size)))
        { s with heap := (s.heap.push { cls := .type "tuple_iterator", data := .fields #[.ref l, .int 0 0] }).push { cls := .type "enumerate", data := .fields #[.none, .bool false, .ref s.heap.objs.size, rawInt 0, .none, .none] } }) :=
  .of_wp fun prog w A R s h => by
    obtain ⟨hp, g, d, tk, os⟩ := s; obtain ⟨hl, h⟩ := h
    have hsub := sub_enumerate
    have hL : Heap.IsTuple (Shared.heap ⟨hp, g, d, tk, os⟩) l items := ⟨_, hl, rfl, n, rfl⟩
    wp_walk using wpAny_loadPart' hl
    refine wpAny_stack_any fun st => wpAny_pure ?_
    split
    · rename_i c _ _ _ _ _
      cases (c == Value.type "enumerate")
      · wp_walk using wpAny_loadPart' hl, wpAny_pyIter_tuple hL
        exact ⟨_, rfl, h⟩
      · wp_walk using wpAny_loadPart' hl, wpAny_pyIter_tuple hL
        exact ⟨_, rfl, h⟩
    · wp_walk using wpAny_loadPart' hl, wpAny_pyIter_tuple hL
      exact ⟨_, rfl, h⟩
theorem call_enumerate_tuple {prog : Program} {w : World} {A : Around} {E : Value → Shared → Prop} {s : Shared} {l : Addr} {items : Array Value} {Q : Value → Shared → Prop} (hL : s.heap.IsTuple l items)
    (h : ∀ h', IsEnum h' (s.heap.objs.size + 1) s.heap.objs.size 0 .none → h'.IsTupleIter s.heap.objs.size l 0 → h'.objs.size = s.heap.objs.size + 2 →
      (∀ b o, s.heap.get? b = some o → h'.get? b = some o) → Q (.ref (s.heap.objs.size + 1)) { s with heap := h' }) :
    wpAny (model prog w) A (call (.type "enumerate") [.ref l]) Q E s := by
  obtain ⟨⟨c, dct, dt, sl⟩, hl, hc, n, hd⟩ := hL
  replace hc : c = .type "tuple" := hc
  replace hd : dt = .seq items n := hd
  subst hc hd
  refine callType_new F.called_enumerate (by decide) (F.typeCall_enumerate_1 _) (F.newCall_enumerate_1 _) (fun obj => F.args_object_init_2 obj _) F.entry_enumerate_new
    (meets_enumerate_newU l items n dct sl) ⟨hl, ?_⟩
  have hz : (s.heap.push { cls := .type "tuple_iterator", data := .fields #[.ref l, .int 0 0] }).objs.size = s.heap.objs.size + 1 := Heap.size_push ..
  show _ ∧ _
  rw [hz]
  have he : IsEnum ((s.heap.push { cls := .type "tuple_iterator", data := .fields #[.ref l, .int 0 0] }).push
      { cls := .type "enumerate", data := .fields #[.none, .bool false, .ref s.heap.objs.size, rawInt 0, .none, .none] }) (s.heap.objs.size + 1) s.heap.objs.size 0 .none := by
    have := Heap.get?_push_size (s.heap.push { cls := .type "tuple_iterator", data := .fields #[.ref l, .int 0 0] })
      (o := { cls := .type "enumerate", data := .fields #[.none, .bool false, .ref s.heap.objs.size, rawInt 0, .none, .none] }) rfl
    rw [hz] at this; exact this
  refine ⟨⟨_, he, rfl⟩, h _ he ⟨_, Heap.get?_push_of_some _ (Heap.get?_push_size _ rfl), rfl, rfl⟩ (by rw [Heap.size_push, hz]) fun b o x => Heap.get?_push_of_some _ (Heap.get?_push_of_some _ x)⟩
def IteU (K : PySem.W.Frag) (a : Addr) : It :=
  ⟨fun i H => ∃ (xs : List V) (x : V), SqT K H a xs ∧ xs[i]? = some x, fun i H v H' => ∃ T x, v = .ref T ∧ H T = none ∧ H' = upd H T (.tup [.int (i : Nat), x]) ∧ ∀ xs, SqT K H a xs → xs[i]? = some x, fun i H => ∃ xs : List V, SqT K H a xs ∧ xs.length ≤ i⟩
theorem turn_enumU {P : Program} {w : World} {K : PySem.W.Frag} {elts : List Expr} {kk : Nat} {tpos : Pos} (a e it : Addr) :
    Turn P w K (.Tuple elts kk tpos) (IteU K a) [e, it] e (fun i h => (∃ old, IsEnum h e it ((i : Nat) : Int) old) ∧ h.IsTupleIter it a i ∧ e ≠ it ∧ a ≠ it ∧ a ≠ e) where
  mem := by simp
  obj := fun i h st b hb => by
    obtain ⟨⟨old, he⟩, ⟨o, ho, hc, hd⟩, _⟩ := st
    have e' : b = e ∨ b = it := by simpa using hb
    rcases e' with z | z
    · rw [z]; exact ⟨_, he, fun v q => nomatch q⟩
    · rw [z]; exact ⟨o, ho, fun v q => by rw [hd] at q; cases q⟩
  keep := fun i h h' st k => let ⟨⟨old, he⟩, hi, hne⟩ := st; ⟨⟨old, k e (by simp) _ he⟩, hi.at fun o q => k it (by simp) o q, hne⟩
  item := by
    intro X hP hw hK hc i pins s σ H E I hf st hg
    subst hP hw hK
    obtain ⟨⟨old, he⟩, hit, hne, hai, hae⟩ := st
    obtain ⟨xs, x, hq, hx⟩ := hg
    obtain ⟨its, rv, p, hz⟩ := I.tuple hq
    have hel : e < s.heap.objs.size := Heap.lt_size he
    have hil : it < s.heap.objs.size := by obtain ⟨_, q, _⟩ := hit; exact Heap.lt_size q
    have hix : i < its.toArray.size := by
      obtain ⟨u, hu, _⟩ := rv.get hx
      have := (List.getElem?_eq_some_iff.mp hu).1
      simpa using this
    have hd : X.A.in1.handled = none := I.ok.hd hc
    refine wpAny_pyNext_enum_itemD (Draws.tuple hd it a hai its.toArray) he ⟨hit, p⟩ hix hne (by simp; exact ⟨hne, hae.symm⟩) fun u h' tk hu ho hit' hT hsz hk => ?_
    have hu' : its[i]? = some u := by simpa using hu
    have ru : RelV x u := by
      obtain ⟨u2, h1, h2⟩ := rv.get hx
      rw [hu'] at h1
      cases h1
      exact h2
    refine ⟨_, rfl, wpAny_letOwnedTupleGo_enum (s := { s with heap := h', toks := tk + 1 }) ho fun h'' he' sb => ?_⟩
    have hT2 : h''.get? s.heap.objs.size = some { cls := .type "tuple", data := .seq #[.int i tk, u] } := (sb.2 _ (Nat.ne_of_gt hel)).trans hT
    have new : ObjOk X.prog X.w (upd H s.heap.objs.size (.tup [.int (i : Nat), x])) h'' s.heap.objs.size (.tup [.int (i : Nat), x]) :=
      ⟨by show 2 ≤ sizeLine; decide, [.int i tk, u], .cons ⟨_, rfl⟩ (.cons ru .nil), ⟨_, hT2, rfl, _, rfl⟩⟩
    have I1 : Inv X pins σ (upd H s.heap.objs.size (.tup [.int (i : Nat), x])) { s with heap := h'', toks := tk + 1 } :=
      I.turnedNew (ch := [e, it]) (fun b ob hb q => (sb.2 b (fun z => hb (by simp [z]))).trans (hk b ob (fun z => hb (by simp [z])) (fun z => hb (by simp [z])) q)) hf (Nat.le_refl _) new
    refine ⟨.ref s.heap.objs.size, _, I1, rfl, ⟨_, x, rfl, I.hok.fresh (Nat.le_refl _), rfl, fun ys hy => by rw [I.tuple_inj hy hq]; exact hx⟩, ⟨⟨u, ?_⟩, hit'.1.at fun o q => (sb.2 it (Ne.symm hne)).trans q, hne, hai, hae⟩, fun b hb => ?_⟩
    · have e1 : ((i + 1 : Nat) : Int) = (i : Int) + 1 := by omega
      rw [e1]; exact he'
    · have hb' : b < s.heap.objs.size := by
        have e' : b = e ∨ b = it := by simpa using hb
        rcases e' with z | z
        · rw [z]; exact hel
        · rw [z]; exact hil
      rw [upd_ne (Nat.ne_of_lt hb')]
      exact (hf b hb).1
  done := by
    intro X hP hw hK hc i pins s σ H E I hf st hg
    subst hP hw hK
    obtain ⟨⟨old, he⟩, hit, hne, hai, hae⟩ := st
    obtain ⟨xs, hq, hx⟩ := hg
    obtain ⟨its, rv, p, hz⟩ := I.tuple hq
    obtain ⟨f0, f1, f2, f3, f4, f5⟩ := hf it (by simp)
    have hl := rv.length
    have hT : s.TypeIs (.ref e) "enumerate" := ⟨_, he, rfl⟩
    have hd : X.A.in1.handled = none := I.ok.hd hc
    unfold pyNext
    refine wpAny_bind (wpAny_attempt (wpAny_callSpecial?_slot (name := Str.ofString "__next__") hT F.slot_enumerate_next
      (wpAny_call_entry F.slot_enumerate_next hT F.entry_enumerate_next ?_ (F.args_enumerate_next_1 _))))
    show wpAny _ _ (field (.ref e) 2 >>= _) _ _ _
    refine wpAny_bind (wpAny_field he rfl (x := .ref it) rfl ?_)
    refine wpAny_bind (wpAny_nextOf_tuple_end hd hit p (by simp; omega) fun h' x he' hx' => ?_)
    obtain ⟨o, ho, hc⟩ := hx'
    refine wpAny_bind (wpAny_isInstance (T := "StopIteration") (b := true) ⟨o, ho, hc⟩ isSubtype_stop ?_)
    exact wpAny_pure ⟨rfl, I.turned (t' := s.toks) (fun b o hb q => he' b o hb q) f0 f1 f3 f4 f5⟩
  self := fun A i s Q E st h => let ⟨⟨_, he⟩, _⟩ := st; wpAny_pyIter_enum he h
def iEnumA (K : PySem.W.Frag) (ta : TA) : TI := fun σ H R => ta σ H fun vs H1 => ∃ a xs, vs = [.ref a] ∧ ((SqL K H1 a xs ∧ R (L2.Ite K a) H1) ∨ (SqT K H1 a xs ∧ R (IteU K a) H1))
theorem pi_enumA {X : Cx} {e : Expr} {ta : TA} {p pos tpos : Pos} {elts : List Expr} {kk : Nat} (hg : Gl X "enumerate") (hm : X.mg "enumerate" = none) (ha : L2.PA X [e] ta) (hs : starEach [e] X.env = [(false, eval e X.env)]) :
    PI X (.Tuple elts kk tpos) (.Call (.Name "enumerate" p) [e] [] pos) (iEnumA X.K ta) := by
  refine ⟨fun pins s σ H R I h => ?_⟩
  refine Call_ (L2.ld_blt I hg hm boot_enumerate (PyProof.Rows.callWith_type1 (L2.thn (ha.run pos pins s σ H _ I h) fun us s1 ⟨vs, H1, I1, r1, q1⟩ => ?_) hs rfl))
  obtain ⟨a, xs, ex, q⟩ := q1
  subst ex
  cases r1 with
  | cons r rr =>
    cases rr
    cases r
    have two : ∀ b ∈ [s1.heap.objs.size + 1, s1.heap.objs.size], s1.heap.objs.size ≤ b := fun b hb => by
      have e' : b = s1.heap.objs.size + 1 ∨ b = s1.heap.objs.size := by simpa using hb
      rcases e' with z | z
      · rw [z]; exact Nat.le_add_right _ _
      · rw [z]; exact Nat.le_refl _
    rcases q with ⟨hq, q⟩ | ⟨hq, q⟩
    · obtain ⟨its, rv, p', hz⟩ := I1.list hq
      refine call_enumerate_list p'.isList fun h' he hit hsz hk => wpAny_pyIter_enum he ?_
      have I2 : Inv X pins σ H1 { s1 with heap := h' } := I1.kept (t' := s1.toks) hk
      exact ⟨s1.heap.objs.size + 1, [s1.heap.objs.size + 1, s1.heap.objs.size], _, _, H1, rfl, I2, L2.turn_enum a (s1.heap.objs.size + 1) s1.heap.objs.size, ⟨⟨.none, he⟩, hit, Nat.succ_ne_self _⟩, fun b hb => I1.fpOk (two b hb) (I1.hok.fresh (two b hb)), q⟩
    · obtain ⟨its, rv, p', hz⟩ := I1.tuple hq
      have hlt : a < s1.heap.objs.size := p'.lt
      refine call_enumerate_tuple p' fun h' he hit hsz hk => wpAny_pyIter_enum he ?_
      have I2 : Inv X pins σ H1 { s1 with heap := h' } := I1.kept (t' := s1.toks) hk
      exact ⟨s1.heap.objs.size + 1, [s1.heap.objs.size + 1, s1.heap.objs.size], _, _, H1, rfl, I2, turn_enumU a (s1.heap.objs.size + 1) s1.heap.objs.size, ⟨⟨.none, he⟩, hit, Nat.succ_ne_self _, Nat.ne_of_lt hlt, Nat.ne_of_lt (Nat.lt_succ_of_lt hlt)⟩, fun b hb => I1.fpOk (two b hb) (I1.hok.fresh (two b hb)), q⟩
/-! ### a value that is walked itself -/
def iAny (K : PySem.W.Frag) (tl : TE) : TI := fun σ H R => tl σ H fun x H1 => (∃ a, x = .ref a ∧ (∃ xs, SqL K H1 a xs) ∧ R (L2.Itl K a) H1) ∨ (∃ a, x = .ref a ∧ (∃ xs, SqT K H1 a xs) ∧ R (L2.Itt K a) H1) ∨ ∃ z, x = .str z ∧ R (L2.Its z) H1
theorem pi_any {X : Cx} {tg l : Expr} {tl : TE} (hl : PE X l tl) : PI X tg l (iAny X.K tl) := by
  refine ⟨fun pins s σ H R I h => ?_⟩
  -- the value first, then by its kind
  have key : ∀ (v : Value) (s1 : Shared) (x : V) (H1 : Hp), Inv X pins σ H1 s1 → RelV x v → ((∃ a, x = .ref a ∧ (∃ xs, SqL X.K H1 a xs) ∧ R (L2.Itl X.K a) H1) ∨ (∃ a, x = .ref a ∧ (∃ xs, SqT X.K H1 a xs) ∧ R (L2.Itt X.K a) H1) ∨ ∃ z, x = .str z ∧ R (L2.Its z) H1) →
      wpAny (model X.prog X.w) X.A (pyIter v) (PIE X pins σ tg R) X.xe s1 := by
    intro v s1 x H1 I1 r1 q1
    rcases q1 with ⟨a, e, ⟨xs, hq⟩, q⟩ | ⟨a, e, ⟨xs, hq⟩, q⟩ | ⟨z, e, q⟩
    · subst e
      cases r1
      obtain ⟨its, rv, p, hz⟩ := I1.list hq
      refine wpAny_pyIter_list p.isList ?_
      refine ⟨s1.heap.objs.size, [s1.heap.objs.size], _, _, H1, rfl, I1.kept (t' := s1.toks) fun b o e => Heap.get?_push_of_some _ e, L2.turn_list a _, ⟨_, Heap.get?_push_size _ rfl, rfl, rfl⟩, fun b hb => ?_, q⟩
      have e : b = s1.heap.objs.size := by simpa using hb
      subst e
      exact I1.fpOk (Nat.le_refl _) (I1.hok.fresh (Nat.le_refl _))
    · subst e
      cases r1
      obtain ⟨its, rv, p, hz⟩ := I1.tuple hq
      refine wpAny_pyIter_tuple (show s1.heap.IsTuple a its.toArray from p) ?_
      refine ⟨s1.heap.objs.size, [s1.heap.objs.size], _, _, H1, rfl, I1.kept (t' := s1.toks) fun b o e => Heap.get?_push_of_some _ e, L2.turn_tuple a _, ⟨_, Heap.get?_push_size _ rfl, rfl, rfl⟩, fun b hb => ?_, q⟩
      have e : b = s1.heap.objs.size := by simpa using hb
      subst e
      exact I1.fpOk (Nat.le_refl _) (I1.hok.fresh (Nat.le_refl _))
    · subst e
      obtain ⟨t, rfl⟩ := r1
      cases ha : z.cps.all (· < 128)
      · exact wpAny_pyIter_wide ha (L2.pi_one (tk := s1.toks) I1 _ (L2.turn_str _ z t "str_iterator" (.inr rfl)) ⟨_, Heap.get?_push_size _ rfl, rfl, rfl⟩ q)
      · exact wpAny_pyIter_ascii ha (L2.pi_one (tk := s1.toks) I1 _ (L2.turn_str _ z t "str_ascii_iterator" (.inl rfl)) ⟨_, Heap.get?_push_size _ rfl, rfl, rfl⟩ q)
  exact L2.thn (hl.run pins s σ H _ I h) fun v s1 ⟨x, H1, I1, r1, q1⟩ => key v s1 x H1 I1 r1 q1
end
end FD
/-! FD7: walked things, isinstance, index, arguments, the deck, calls: what a combinator says of a reading. -/
namespace FD
noncomputable section
open PySem
open L2 (Hp HO V upd upd_same upd_ne ne_of_none Rd SqL SqT Vals RelV VK TE TT TA TS TG TGs St XK Cx PE PT PW PA PS PSs PG PGs PI Inv OpR UnR CallR R2 rI0 rI tOp tUn tVar tC tCB tCons tNil SlR IxR MtR It TI XK Sp)
section
variable {Y : Yx} {X : Cx}
/-! ### walked -/
def ItOk (Y : Yx) (J : It) (FH : Hp) (ds : List D) : Prop :=
  ∀ (i : Nat) (ρ : Rho) (FH1 H1 : Hp) (σ' : St) (σ : Sl) (g : G), Rep Y ρ FH1 H1 σ' σ g → Sub FH FH1 →
    (∀ d, ds[i]? = some d → J.go i H1 ∧ ∀ x H2, J.yld i H1 x H2 → ∃ FH2, NewRes Y.K FH1 H1 FH2 H2 x (.fz d)) ∧ (ds.length ≤ i → J.stop i H1)
def SndI (Y : Yx) (ti : TI) (f : Ev (List D)) : Prop :=
  ∀ (ρ : Rho) (FH H : Hp) (σ' : St) (σ : Sl) (g : G) (R : It → Hp → Prop), Rep Y ρ FH H σ' σ g → Good Y (f σ g) (fun ds σ2 g2 => ∀ J FH2 H2, Rep Y ρ FH2 H2 σ' σ2 g2 → Sub FH FH2 → Evo σ σ2 → ItOk Y J FH2 ds → R J H2) → ti σ' H R
theorem itOk_list {FH : Hp} {a : Addr} {vs : List V} {ds : List D} (h : Rd FH a (.lst vs)) (q : DqAll Y.K FH vs ds) : ItOk Y (L2.Itl Y.K a) FH ds := by
  intro i ρ FH1 H1 σ' σ g R S
  have hs : SqL Y.K H1 a vs := .inl (R.sub.rd (S.rd h))
  have q1 := DqAll.up S ds q
  refine ⟨fun d hd => ?_, fun hl => ⟨vs, hs, by rw [q.len]; exact hl⟩⟩
  obtain ⟨v, h1, h2⟩ := q1.get hd
  refine ⟨⟨vs, v, hs, h1⟩, fun x H2 y => ?_⟩
  obtain ⟨e, y⟩ := y
  subst e
  have e2 := y vs hs
  rw [h1] at e2
  cases e2
  exact ⟨FH1, res0 h2⟩
theorem itOk_tup {FH : Hp} {a : Addr} {vs : List V} {ds : List D} (h : SqT Y.K FH a vs) (q : DqAll Y.K FH vs ds) : ItOk Y (L2.Itt Y.K a) FH ds := by
  intro i ρ FH1 H1 σ' σ g R S
  have hs : SqT Y.K H1 a vs := R.sub.sqt (S.sqt h)
  have q1 := DqAll.up S ds q
  refine ⟨fun d hd => ?_, fun hl => ⟨vs, hs, by rw [q.len]; exact hl⟩⟩
  obtain ⟨v, h1, h2⟩ := q1.get hd
  refine ⟨⟨vs, v, hs, h1⟩, fun x H2 y => ?_⟩
  obtain ⟨e, y⟩ := y
  subst e
  have e2 := y vs hs
  rw [h1] at e2
  cases e2
  exact ⟨FH1, res0 h2⟩
theorem itOk_str {FH : Hp} {z : Str} : ItOk Y (L2.Its z) FH (z.cps.toList.map fun c => .str ⟨#[c]⟩) := by
  intro i ρ FH1 H1 σ' σ g R S
  refine ⟨fun d hd => ?_, fun hl => ?_⟩
  · rw [List.getElem?_map, Option.map_eq_some_iff] at hd
    obtain ⟨c, h1, rfl⟩ := hd
    have hi : i < z.cps.size := by
      have := (List.getElem?_eq_some_iff.mp h1).1
      simpa using this
    refine ⟨hi, fun x H2 y => ?_⟩
    obtain ⟨e, c', h2, rfl⟩ := y
    subst e
    have e3 : z.cps.toList[i]? = some c' := by simpa using h2
    rw [h1] at e3
    cases e3
    exact ⟨FH1, res0 (.str _)⟩
  · show z.cps.size ≤ i
    simpa using hl
theorem itOk_rng {FH : Hp} {lo : Int} {n : Nat} : ItOk Y (L2.Itr lo n) FH ((List.range n).map fun i => .int (lo + (i : Nat))) := by
  intro i ρ FH1 H1 σ' σ g R S
  refine ⟨fun d hd => ?_, fun hl => ?_⟩
  · rw [List.getElem?_map, Option.map_eq_some_iff] at hd
    obtain ⟨c, h1, rfl⟩ := hd
    have hi : i < n := by
      have := (List.getElem?_eq_some_iff.mp h1).1
      simpa using this
    rw [List.getElem?_range hi] at h1
    cases h1
    refine ⟨hi, fun x H2 y => ?_⟩
    obtain ⟨e, rfl⟩ := y
    subst e
    exact ⟨FH1, res0 (.int _)⟩
  · show n ≤ i
    simpa using hl
theorem enumD_get : ∀ (ds : List D) (n i : Nat), (enumD n ds)[i]? = (ds[i]?).map fun x => .tuple [.int ((n + i : Nat) : Int), x]
  | [], _, _ => by simp [enumD]
  | x :: r, n, 0 => by simp [enumD]
  | x :: r, n, i + 1 => by
    rw [enumD, List.getElem?_cons_succ, List.getElem?_cons_succ, enumD_get r (n + 1) i]
    have e : n + 1 + i = n + (i + 1) := by omega
    rw [e]
theorem enumD_len : ∀ (ds : List D) (n : Nat), (enumD n ds).length = ds.length
  | [], _ => rfl
  | x :: r, n => by rw [enumD, List.length_cons, List.length_cons, enumD_len r (n + 1)]
theorem resPair {ρ : Rho} {FH H : Hp} {σ' : St} {σ : Sl} {g : G} (R : Rep Y ρ FH H σ' σ g) {T : Addr} {x y : V} {a b : D} (hn : H T = none) (h1 : Dq Y.K FH x a) (h2 : Dq Y.K FH y b) : ∃ FH2, NewRes Y.K FH H FH2 (upd H T (.tup [x, y])) (.ref T) (.fz (.tuple [a, b])) :=
  ⟨_, resTup hn R.sub (.cons h1 (.cons h2 .nil))⟩
theorem itOk_enumL {FH : Hp} {a : Addr} {vs : List V} {ds : List D} (h : Rd FH a (.lst vs)) (q : DqAll Y.K FH vs ds) : ItOk Y (L2.Ite Y.K a) FH (enumD 0 ds) := by
  intro i ρ FH1 H1 σ' σ g R S
  have hs : SqL Y.K H1 a vs := .inl (R.sub.rd (S.rd h))
  have q1 := DqAll.up S ds q
  refine ⟨fun d hd => ?_, fun hl => ⟨vs, hs, by rw [q.len]; rw [enumD_len] at hl; exact hl⟩⟩
  rw [enumD_get, Option.map_eq_some_iff] at hd
  obtain ⟨c, hd, rfl⟩ := hd
  obtain ⟨v, h1, h2⟩ := q1.get hd
  refine ⟨⟨vs, v, hs, h1⟩, fun x H2 y => ?_⟩
  obtain ⟨T, w, rfl, hn, rfl, y⟩ := y
  have e2 := y vs hs
  rw [h1] at e2
  cases e2
  rw [Nat.zero_add]
  exact resPair R hn (.int _) h2
theorem itOk_enumU {FH : Hp} {a : Addr} {vs : List V} {ds : List D} (h : SqT Y.K FH a vs) (q : DqAll Y.K FH vs ds) : ItOk Y (IteU Y.K a) FH (enumD 0 ds) := by
  intro i ρ FH1 H1 σ' σ g R S
  have hs : SqT Y.K H1 a vs := R.sub.sqt (S.sqt h)
  have q1 := DqAll.up S ds q
  refine ⟨fun d hd => ?_, fun hl => ⟨vs, hs, by rw [q.len]; rw [enumD_len] at hl; exact hl⟩⟩
  rw [enumD_get, Option.map_eq_some_iff] at hd
  obtain ⟨c, hd, rfl⟩ := hd
  obtain ⟨v, h1, h2⟩ := q1.get hd
  refine ⟨⟨vs, v, hs, h1⟩, fun x H2 y => ?_⟩
  obtain ⟨T, w, rfl, hn, rfl, y⟩ := y
  have e2 := y vs hs
  rw [h1] at e2
  cases e2
  rw [Nat.zero_add]
  exact resPair R hn (.int _) h2
theorem zipD_get : ∀ (xs ys : List D) (i : Nat) (d : D), (zipD xs ys)[i]? = some d → ∃ x y, xs[i]? = some x ∧ ys[i]? = some y ∧ d = .tuple [x, y]
  | [], _, _, _, h => by simp [zipD] at h
  | _ :: _, [], _, _, h => by simp [zipD] at h
  | x :: r, y :: s, 0, d, h => by
    simp only [zipD, List.getElem?_cons_zero, Option.some.injEq] at h
    exact ⟨x, y, rfl, rfl, h.symm⟩
  | x :: r, y :: s, i + 1, d, h => by
    simp only [zipD, List.getElem?_cons_succ] at h
    obtain ⟨a, b, h1, h2, h3⟩ := zipD_get r s i d h
    exact ⟨a, b, by simpa using h1, by simpa using h2, h3⟩
theorem zipD_len : ∀ (xs ys : List D), (zipD xs ys).length = min xs.length ys.length
  | [], _ => by simp [zipD]
  | _ :: _, [] => by simp [zipD]
  | x :: r, y :: s => by
    rw [zipD, List.length_cons, zipD_len r s, List.length_cons, List.length_cons]
    omega
theorem itOk_zipL {FH : Hp} {a b : Addr} {vs ws : List V} {ds es : List D} (h : Rd FH a (.lst vs)) (q : DqAll Y.K FH vs ds) (h' : Rd FH b (.lst ws)) (q' : DqAll Y.K FH ws es) : ItOk Y (L2.Itz Y.K a b) FH (zipD ds es) := by
  intro i ρ FH1 H1 σ' σ g R S
  have hs : SqL Y.K H1 a vs := .inl (R.sub.rd (S.rd h))
  have hs' : SqL Y.K H1 b ws := .inl (R.sub.rd (S.rd h'))
  have q1 := DqAll.up S ds q
  have q2 := DqAll.up S es q'
  refine ⟨fun d hd => ?_, fun hl => ⟨vs, ws, hs, hs', ?_⟩⟩
  · obtain ⟨c, c', e1, e2, rfl⟩ := zipD_get _ _ _ _ hd
    obtain ⟨v, h1, h2⟩ := q1.get e1
    obtain ⟨v', h1', h2'⟩ := q2.get e2
    refine ⟨⟨vs, ws, v, v', hs, hs', h1, h1'⟩, fun x H2 y => ?_⟩
    obtain ⟨T, w, w', rfl, hn, rfl, y, y'⟩ := y
    have e2 := y vs hs
    rw [h1] at e2
    cases e2
    have e2 := y' ws hs'
    rw [h1'] at e2
    cases e2
    exact resPair R hn h2 h2'
  · rw [zipD_len] at hl
    rw [q.len, q'.len]
    omega
theorem itOk_zipU {FH : Hp} {a b : Addr} {vs ws : List V} {ds es : List D} (h : SqT Y.K FH a vs) (q : DqAll Y.K FH vs ds) (h' : SqT Y.K FH b ws) (q' : DqAll Y.K FH ws es) : ItOk Y (RZ.ItzT Y.K a b) FH (zipD ds es) := by
  intro i ρ FH1 H1 σ' σ g R S
  have hs : SqT Y.K H1 a vs := R.sub.sqt (S.sqt h)
  have hs' : SqT Y.K H1 b ws := R.sub.sqt (S.sqt h')
  have q1 := DqAll.up S ds q
  have q2 := DqAll.up S es q'
  refine ⟨fun d hd => ?_, fun hl => ⟨vs, ws, hs, hs', ?_⟩⟩
  · obtain ⟨c, c', e1, e2, rfl⟩ := zipD_get _ _ _ _ hd
    obtain ⟨v, h1, h2⟩ := q1.get e1
    obtain ⟨v', h1', h2'⟩ := q2.get e2
    refine ⟨⟨vs, ws, v, v', hs, hs', h1, h1'⟩, fun x H2 y => ?_⟩
    obtain ⟨T, w, w', rfl, hn, rfl, y, y'⟩ := y
    have e2 := y vs hs
    rw [h1] at e2
    cases e2
    have e2 := y' ws hs'
    rw [h1'] at e2
    cases e2
    exact resPair R hn h2 h2'
  · rw [zipD_len] at hl
    rw [q.len, q'.len]
    omega
variable {ta tb : TE} {f f1 f2 : Ev D}
theorem snd_iSeq (ha : SndE Y (RelD Y) ta f) : SndI Y (iAny Y.K ta) (iSeq f) := by
  intro ρ FH H σ' σ g Q R hg
  refine ha ρ FH H σ' σ g _ R (hg.bind.mono fun d σ2 g2 q v FH2 H2 R2 S E rel => ?_)
  obtain ⟨ds, e, q⟩ := q.lift
  cases rel with
  | lst h a =>
    simp only [seqOf, Option.some.injEq] at e
    subst e
    exact .inl ⟨_, rfl, ⟨_, .inl (R2.sub.rd h)⟩, q _ FH2 H2 R2 S E (itOk_list h a)⟩
  | tup h a =>
    simp only [seqOf, Option.some.injEq] at e
    subst e
    exact .inr (.inl ⟨_, rfl, ⟨_, R2.sub.sqt h⟩, q _ FH2 H2 R2 S E (itOk_tup h a)⟩)
  | str x =>
    simp only [seqOf] at e
    split at e
    · cases e
      exact .inr (.inr ⟨x, rfl, q _ FH2 H2 R2 S E itOk_str⟩)
    · cases e
  | non => simp [seqOf] at e
  | bl b => simp [seqOf] at e
  | int i => simp [seqOf] at e
theorem snd_iR1 (ha : SndE Y (RelP Y) ta f) : SndI Y (L2.iRng1 (tCons ta tNil)) (iR1 f) := by
  intro ρ FH H σ' σ g Q R hg
  refine ha ρ FH H σ' σ g _ R (hg.bind.mono fun d σ2 g2 q v FH2 H2 R2 S E rel => ?_)
  obtain ⟨ds, e, q⟩ := q.lift
  cases d with
  | int n =>
    simp only [rng1] at e
    split at e
    · rename_i hn
      cases e
      rw [rel.int]
      refine ⟨n, rfl, hn.1, hn.2, q _ FH2 H2 R2 S E ?_⟩
      have := itOk_rng (Y := Y) (FH := FH2) (lo := 0) (n := n.toNat)
      unfold rngD
      rw [Int.sub_zero]
      exact this
    · cases e
  | _ => simp [rng1] at e
theorem snd_iR2 (ha : SndE Y (RelP Y) ta f1) (hb : SndE Y (RelP Y) tb f2) : SndI Y (L2.iRng2 (tCons ta (tCons tb tNil))) (iR2 f1 f2) := by
  intro ρ FH H σ' σ g Q R hg
  refine ha ρ FH H σ' σ g _ R (hg.bind.mono fun d σ2 g2 q v FH2 H2 R2 S E rel => ?_)
  refine hb ρ FH2 H2 σ' σ2 g2 _ R2 (q.bind.mono fun e σ3 g3 q u FH3 H3 R3 S3 E3 rel3 => ?_)
  obtain ⟨ds, eq, q⟩ := q.lift
  have rel := rel.up S3 E3 R3
  cases d with
  | int m =>
    cases e with
    | int n =>
      simp only [rng2] at eq
      split at eq
      · rename_i hn
        cases eq
        rw [rel.int, rel3.int]
        exact ⟨m, n, rfl, ⟨hn.1.1, hn.1.2, hn.2.1, hn.2.2⟩, q _ FH3 H3 R3 (S.trans S3) (E.trans E3) itOk_rng⟩
      · cases eq
    | _ => simp [rng2] at eq
  | _ => cases e <;> simp [rng2] at eq
theorem snd_iEnum (ha : SndE Y (RelD Y) ta f) : SndI Y (iEnumA Y.K (tCons ta tNil)) (iEnum f) := by
  intro ρ FH H σ' σ g Q R hg
  refine ha ρ FH H σ' σ g _ R (hg.bind.mono fun d σ2 g2 q v FH2 H2 R2 S E rel => ?_)
  obtain ⟨ds, e, q⟩ := q.lift
  cases rel with
  | lst h a =>
    simp only [lseqOf, Option.map_some, Option.some.injEq] at e
    subst e
    exact ⟨_, _, rfl, .inl ⟨.inl (R2.sub.rd h), q _ FH2 H2 R2 S E (itOk_enumL h a)⟩⟩
  | tup h a =>
    simp only [lseqOf, Option.map_some, Option.some.injEq] at e
    subst e
    exact ⟨_, _, rfl, .inr ⟨R2.sub.sqt h, q _ FH2 H2 R2 S E (itOk_enumU h a)⟩⟩
  | str x => simp [lseqOf] at e
  | non => simp [lseqOf] at e
  | bl b => simp [lseqOf] at e
  | int i => simp [lseqOf] at e
theorem snd_iZip (ha : SndE Y (RelD Y) ta f1) (hb : SndE Y (RelD Y) tb f2) : SndI Y (RZ.iZipA Y.K (tCons ta (tCons tb tNil))) (iZip f1 f2) := by
  intro ρ FH H σ' σ g Q R hg
  refine ha ρ FH H σ' σ g _ R (hg.bind.mono fun d σ2 g2 q v FH2 H2 R2 S E rel => ?_)
  refine hb ρ FH2 H2 σ' σ2 g2 _ R2 (q.bind.mono fun e σ3 g3 q u FH3 H3 R3 S3 E3 rel3 => ?_)
  obtain ⟨ds, eq, q⟩ := q.lift
  have rel := Dq.up S3 d rel
  unfold zipK at eq
  split at eq
  · cases eq
    cases rel with
    | lst h a =>
      cases rel3 with
      | lst h' a' => exact ⟨_, _, _, _, rfl, .inl ⟨.inl (R3.sub.rd h), .inl (R3.sub.rd h'), q _ FH3 H3 R3 (S.trans S3) (E.trans E3) (itOk_zipL h a h' a')⟩⟩
  · cases eq
    cases rel with
    | tup h a =>
      cases rel3 with
      | tup h' a' => exact ⟨_, _, _, _, rfl, .inr ⟨R3.sub.sqt h, R3.sub.sqt h', q _ FH3 H3 R3 (S.trans S3) (E.trans E3) (itOk_zipU h a h' a')⟩⟩
  · cases eq
/-! ### isinstance -/
theorem tyx_of {ρ : Rho} {FH H : Hp} {σ' : St} {σ : Sl} {g : G} {v : V} {d : D} {T : BT} {b : Bool} (R : Rep Y ρ FH H σ' σ g) (rel : RelP Y ρ FH H σ' σ v d) (e : pyIsI T d = some b) :
    ∃ t : String, L2.TyX Y.K H v (.type t) ∧ L2.kitB t T.nm = some b := by
  have rel := rel.dq R
  cases rel with
  | non =>
    refine ⟨"NoneType", .base .non, ?_⟩
    cases T <;> (simp only [pyIsI, Option.some.injEq] at e; subst e; decide +kernel)
  | bl x =>
    refine ⟨"bool", .base (.bl x), ?_⟩
    cases T <;> (simp only [pyIsI, Option.some.injEq] at e; subst e; decide +kernel)
  | int i =>
    refine ⟨"int", .base (.int i), ?_⟩
    cases T <;> (simp only [pyIsI, Option.some.injEq] at e; subst e; decide +kernel)
  | str x =>
    refine ⟨"str", .base (.str x), ?_⟩
    cases T <;> (simp only [pyIsI, Option.some.injEq] at e; subst e; decide +kernel)
  | lst h a =>
    refine ⟨"list", ?_, ?_⟩
    · rcases h with h | ⟨o, h⟩
      · exact .base (.lst h)
      · exact .base (.frz h)
    · cases T <;> (simp only [pyIsI, Option.some.injEq] at e; subst e; decide +kernel)
  | tup h a =>
    refine ⟨"tuple", ?_, ?_⟩
    · rcases h with (h | ⟨o, h⟩) | ⟨o, its, n, h, hc, _⟩
      · exact .base (.tup h)
      · exact .fTuple h
      · exact .kTuple h hc
    · cases T <;> (simp only [pyIsI, Option.some.injEq] at e; subst e; decide +kernel)
theorem snd_cIsI {T : BT} (ha : SndE Y (RelP Y) ta f) : SndE Y (RelB Y) (tCB (L2.rIsi Y.K) (tCons ta (tCons (tC (.ty T.nm)) tNil))) (cIsI T f) := by
  intro ρ FH H σ' σ g Q R hg
  refine ha ρ FH H σ' σ g _ R (hg.bind.mono fun d σ2 g2 q v FH2 H2 R2 S E rel => ?_)
  obtain ⟨b, e, q⟩ := q.lift
  obtain ⟨t, h1, h2⟩ := tyx_of R2 rel e
  exact ⟨v, _, _, _, b, rfl, .ty T.nm, h1, L2.kit_ty h2, q _ FH2 H2 R2 S E rfl⟩
end
end
end FD
/-! FD8: stored names, the deck, calls, comprehensions. -/
namespace FD
noncomputable section
open PySem
open L2 (Hp HO V upd upd_same upd_ne ne_of_none Rd SqL SqT Vals RelV VK TE TT TA TS TG TGs St XK Cx PE PT PW PA PS PSs PG PGs PI Inv OpR UnR CallR R2 rI0 rI tOp tUn tVar tC tCB tCons tNil SlR IxR MtR It TI XK Sp wipe)
section
variable {Y : Yx} {ρ : Rho} {FH H FH2 H2 : Hp} {σ' : St} {σ σ2 : Sl} {g g2 : G}
/-! ### stored names -/
theorem getSet {α : Type} {l : List α} {i j : Nat} {a b : α} (h : (l.set i a)[j]? = some b) : (i = j ∧ b = a ∧ i < l.length) ∨ (i ≠ j ∧ l[j]? = some b) := by
  by_cases z : i = j
  · subst z
    by_cases w : i < l.length
    · rw [List.getElem?_set_self w] at h
      exact .inl ⟨rfl, (Option.some.inj h).symm, w⟩
    · rw [List.getElem?_eq_none (by rw [List.length_set]; omega)] at h
      cases h
  · rw [List.getElem?_set_ne z] at h
    exact .inr ⟨z, h⟩
theorem Rep.setFz (R : Rep Y ρ FH H σ' σ g) (i : Nat) {v : V} {d : D} (hd : Dq Y.K FH v d) : Rep Y ρ FH H (σ'.set i (some v)) (σ.set i (some (.fz d))) g := by
  have hl := R.len
  have old : ∀ {j : Nat} {es : List D}, (σ.set i (some (SV.fz d)))[j]? = some (some (.ow es)) → i ≠ j ∧ σ[j]? = some (some (.ow es)) := fun {j es} h => by
    rcases getSet h with ⟨_, e, _⟩ | q
    · cases e
    · exact q
  refine ⟨R.sub, by rw [List.length_set, List.length_set]; exact hl, fun j e h => ?_, fun j es h => ?_, fun j k es fs p a1 a2 a3 a4 => ?_, fun j r a t h => ?_, fun j h => ?_, R.deck, R.ext, R.rho, R.cf, fun q vs h => ?_⟩
  · rcases getSet h with ⟨rfl, e1, w⟩ | ⟨z, q⟩
    · cases e1
      exact ⟨v, List.getElem?_set_self (by rw [hl]; exact w), hd⟩
    · rw [List.getElem?_set_ne z]
      exact R.fz j e q
  · obtain ⟨z, q⟩ := old h
    rw [List.getElem?_set_ne z]
    exact R.ow j es q
  · obtain ⟨z1, q1⟩ := old a1
    obtain ⟨z2, q2⟩ := old a2
    rw [List.getElem?_set_ne z1] at a3
    rw [List.getElem?_set_ne z2] at a4
    exact R.dis j k es fs p q1 q2 a3 a4
  · rcases getSet h with ⟨_, e, _⟩ | ⟨_, q⟩
    · cases e
    · exact R.nond j r a t q
  · rcases getSet h with ⟨_, e, _⟩ | ⟨z, q⟩
    · cases e
    · rw [List.getElem?_set_ne z]
      exact R.dl j q
  · obtain ⟨h1, h2, h3, h4⟩ := R.pend q vs h
    refine ⟨h1, h2, fun j es hj => ?_, h4⟩
    obtain ⟨z, q⟩ := old hj
    rw [List.getElem?_set_ne z]
    exact h3 j es q
theorem Rep.setOw (R : Rep Y ρ FH H σ' σ g) (i : Nat) {p : Addr} {vs : List V} {ds : List D} (F : Fresh Y ρ FH H σ' σ p vs ds) : Rep Y ρ FH H (σ'.set i (some (.ref p))) (σ.set i (some (.ow ds))) g := by
  have hl := R.len
  refine ⟨R.sub, by rw [List.length_set, List.length_set]; exact hl, fun j e h => ?_, fun j es h => ?_, fun j k es fs q a1 a2 a3 a4 => ?_, fun j r a t h => ?_, fun j h => ?_, R.deck, R.ext, R.rho, R.cf, fun q ws h => ?_⟩
  · rcases getSet h with ⟨_, e1, _⟩ | ⟨z, q⟩
    · cases e1
    · rw [List.getElem?_set_ne z]
      exact R.fz j e q
  · rcases getSet h with ⟨rfl, e1, w⟩ | ⟨z, q⟩
    · cases e1
      exact ⟨p, vs, List.getElem?_set_self (by rw [hl]; exact w), F.f, F.h, F.a, F.o, F.c⟩
    · rw [List.getElem?_set_ne z]
      exact R.ow j es q
  · rcases getSet a1 with ⟨rfl, e1, w1⟩ | ⟨z1, q1⟩
    · rcases getSet a2 with ⟨rfl, _, _⟩ | ⟨z2, q2⟩
      · rfl
      · rw [List.getElem?_set_self (by rw [hl]; exact w1)] at a3
        cases a3
        rw [List.getElem?_set_ne z2] at a4
        exact absurd a4 (F.s k fs q2)
    · rw [List.getElem?_set_ne z1] at a3
      rcases getSet a2 with ⟨rfl, e2, w2⟩ | ⟨z2, q2⟩
      · rw [List.getElem?_set_self (by rw [hl]; exact w2)] at a4
        cases a4
        exact absurd a3 (F.s j es q1)
      · rw [List.getElem?_set_ne z2] at a4
        exact R.dis j k es fs q q1 q2 a3 a4
  · rcases getSet h with ⟨_, e, _⟩ | ⟨_, q⟩
    · cases e
    · exact R.nond j r a t q
  · rcases getSet h with ⟨_, e, _⟩ | ⟨z, q⟩
    · cases e
    · rw [List.getElem?_set_ne z]
      exact R.dl j q
  · obtain ⟨h1, h2, h3, h4⟩ := R.pend q ws h
    refine ⟨h1, h2, fun j es hj => ?_, h4⟩
    rcases getSet hj with ⟨rfl, _, w⟩ | ⟨z, q'⟩
    · rw [List.getElem?_set_self (by rw [hl]; exact w)]
      intro e
      cases e
      rw [F.d] at h
      cases h
    · rw [List.getElem?_set_ne z]
      exact h3 j es q'
/-- slots may be forgotten -/
theorem Rep.forget (R : Rep Y ρ FH H σ' σ g) {σ1' : St} {σ1 : Sl} (hl : σ1'.length = σ1.length) (h : ∀ (i : Nat) (x : SV), σ1[i]? = some (some x) → σ[i]? = some (some x) ∧ σ1'[i]? = σ'[i]?) : Rep Y ρ FH H σ1' σ1 g := by
  refine ⟨R.sub, hl, fun j e q => ?_, fun j es q => ?_, fun j k es fs p a1 a2 a3 a4 => ?_, fun j r a t q => ?_, fun j q => ?_, R.deck, R.ext, R.rho, R.cf, fun p vs q => ?_⟩
  · obtain ⟨h1, h2⟩ := h j _ q
    rw [h2]
    exact R.fz j e h1
  · obtain ⟨h1, h2⟩ := h j _ q
    rw [h2]
    exact R.ow j es h1
  · obtain ⟨h1, h2⟩ := h j _ a1
    obtain ⟨h3, h4⟩ := h k _ a2
    rw [h2] at a3
    rw [h4] at a4
    exact R.dis j k es fs p h1 h3 a3 a4
  · exact R.nond j r a t (h j _ q).1
  · obtain ⟨h1, h2⟩ := h j _ q
    rw [h2]
    exact R.dl j h1
  · obtain ⟨b1, b2, b3, b4⟩ := R.pend p vs q
    refine ⟨b1, b2, fun j es hj => ?_, b4⟩
    obtain ⟨h1, h2⟩ := h j _ hj
    rw [h2]
    exact b3 j es h1

/-! ### targets -/
def Agree {α : Type} (vs : List Nat) (a b : List α) : Prop := a.length = b.length ∧ ∀ i, i ∉ vs → a[i]? = b[i]?
theorem Agree.refl {α : Type} (vs : List Nat) (a : List α) : Agree vs a a := ⟨rfl, fun _ _ => rfl⟩
theorem Agree.trans {α : Type} {vs : List Nat} {a b c : List α} (h : Agree vs a b) (h2 : Agree vs b c) : Agree vs a c := ⟨h.1.trans h2.1, fun i hi => (h.2 i hi).trans (h2.2 i hi)⟩
theorem Agree.set {α : Type} {vs : List Nat} {a : List α} {i : Nat} {x : α} (hi : i ∈ vs) : Agree vs a (a.set i x) := ⟨by rw [List.length_set], fun j hj => by
  rw [List.getElem?_set_ne (show i ≠ j from fun e => hj (by rw [← e]; exact hi))]⟩
theorem Agree.symm {α : Type} {vs : List Nat} {a b : List α} (h : Agree vs a b) : Agree vs b a := ⟨h.1.symm, fun i hi => (h.2 i hi).symm⟩
theorem wipe_len (σ : St) : ∀ vs, (wipe σ vs).length = σ.length := L2.wipe_length σ
theorem wipe_get {σ : St} : ∀ (vs : List Nat) (i : Nat), (wipe σ vs)[i]? = if i ∈ vs ∧ i < σ.length then some none else σ[i]?
  | [], i => by simp [wipe]
  | v :: vs, i => by
    show ((wipe σ vs).set v none)[i]? = _
    by_cases z : v = i
    · subst z
      by_cases w : v < σ.length
      · rw [List.getElem?_set_self (by rw [wipe_len]; exact w), if_pos ⟨List.mem_cons_self, w⟩]
      · rw [List.getElem?_eq_none (by rw [List.length_set, wipe_len]; omega), if_neg (fun h => w h.2), List.getElem?_eq_none (by omega)]
    · rw [List.getElem?_set_ne z, wipe_get vs i]
      have e : (i ∈ v :: vs) ↔ i ∈ vs := by
        simp only [List.mem_cons]
        exact ⟨fun h => h.resolve_left (fun e => z e.symm), .inr⟩
      simp only [e]
theorem wipeS_len (σ : Sl) : ∀ vs, (wipeS σ vs).length = σ.length
  | [] => rfl
  | v :: vs => by
    show ((wipeS σ vs).set v none).length = _
    rw [List.length_set, wipeS_len σ vs]
theorem wipeS_get {σ : Sl} : ∀ (vs : List Nat) (i : Nat), (wipeS σ vs)[i]? = if i ∈ vs ∧ i < σ.length then some none else σ[i]?
  | [], i => by simp [wipeS]
  | v :: vs, i => by
    show ((wipeS σ vs).set v none)[i]? = _
    by_cases z : v = i
    · subst z
      by_cases w : v < σ.length
      · rw [List.getElem?_set_self (by rw [wipeS_len]; exact w), if_pos ⟨List.mem_cons_self, w⟩]
      · rw [List.getElem?_eq_none (by rw [List.length_set, wipeS_len]; omega), if_neg (fun h => w h.2), List.getElem?_eq_none (by omega)]
    · rw [List.getElem?_set_ne z, wipeS_get vs i]
      have e : (i ∈ v :: vs) ↔ i ∈ vs := by
        simp only [List.mem_cons]
        exact ⟨fun h => h.resolve_left (fun e => z e.symm), .inr⟩
      simp only [e]
theorem Agree.wipe {vs : List Nat} {a b : St} (h : Agree vs a b) : wipe a vs = wipe b vs := by
  refine List.ext_getElem? fun i => ?_
  rw [wipe_get, wipe_get, h.1]
  by_cases z : i ∈ vs ∧ i < b.length
  · rw [if_pos z, if_pos z]
  · rw [if_neg z, if_neg z]
    by_cases w : i ∈ vs
    · have : ¬ i < b.length := fun e => z ⟨w, e⟩
      rw [List.getElem?_eq_none (by rw [h.1]; omega), List.getElem?_eq_none (by omega)]
    · exact h.2 i w
def SndG (Y : Yx) (vs : List Nat) (gt : TG) (t : TgF) : Prop :=
  ∀ (ρ : Rho) (FH H : Hp) (σ' : St) (σ : Sl) (g : G) (v : V) (d : D) (Q : St → Hp → Prop), Rep Y ρ FH H σ' σ g → Dq Y.K FH v d → Good Y (t d σ g) (fun _ σ2 g2 => ∀ σ2' FH2 H2, Rep Y ρ FH2 H2 σ2' σ2 g2 → Sub FH FH2 → Agree vs σ' σ2' → Agree vs σ σ2 → Q σ2' H2) → gt v σ' H Q
def SndGs (Y : Yx) (vs : List Nat) (gt : TGs) (t : List D → Ev Unit) : Prop :=
  ∀ (ρ : Rho) (FH H : Hp) (σ' : St) (σ : Sl) (g : G) (xs : List V) (ds : List D) (Q : St → Hp → Prop), Rep Y ρ FH H σ' σ g → DqAll Y.K FH xs ds → Good Y (t ds σ g) (fun _ σ2 g2 => ∀ σ2' FH2 H2, Rep Y ρ FH2 H2 σ2' σ2 g2 → Sub FH FH2 → Agree vs σ' σ2' → Agree vs σ σ2 → Q σ2' H2) → gt xs σ' H Q
theorem snd_gNm {vs : List Nat} {i : Nat} (hi : i ∈ vs) : SndG Y vs (L2.gName i) (gNm i) := by
  intro ρ FH H σ' σ g v d Q R hd hg
  exact hg _ FH H (R.setFz i hd) (Sub.refl _) (Agree.set hi) (Agree.set hi)
theorem snd_gN {vs : List Nat} : SndGs Y vs L2.gNil gN := by
  intro ρ FH H σ' σ g xs ds Q R hd hg
  cases hd with
  | nil => exact ⟨rfl, hg σ' FH H R (Sub.refl _) (Agree.refl _ _) (Agree.refl _ _)⟩
  | cons a b => exact hg.elim
theorem snd_gC {vs : List Nat} {gt : TG} {gts : TGs} {t : TgF} {ts : List D → Ev Unit} (h1 : SndG Y vs gt t) (h2 : SndGs Y vs gts ts) : SndGs Y vs (L2.gCons gt gts) (gC t ts) := by
  intro ρ FH H σ' σ g xs ds Q R hd hg
  cases hd with
  | nil => exact hg.elim
  | cons a b =>
    refine ⟨_, _, rfl, h1 ρ FH H σ' σ g _ _ _ R a (Good.mono (Good.bind hg) fun _ σ2 g2 q σ2' FH2 H2 R2 S A1 A2 => ?_)⟩
    exact h2 ρ FH2 H2 σ2' σ2 g2 _ _ Q R2 (DqAll.up S _ b) (q.mono fun _ σ3 g3 q σ3' FH3 H3 R3 S3 A3 A4 => q σ3' FH3 H3 R3 (S.trans S3) (A1.trans A3) (A2.trans A4))
theorem snd_gTp {vs : List Nat} {gts : TGs} {ts : List D → Ev Unit} {n : Nat} (h : SndGs Y vs gts ts) : SndG Y vs (L2.gTup Y.K n gts) (gTp n ts) := by
  intro ρ FH H σ' σ g v d Q R hd hg
  cases hd with
  | tup h1 a =>
    have hg : Good Y (if _ = n then _ else _) _ := hg
    split at hg
    · rename_i hl
      exact ⟨_, _, rfl, R.sub.sqt h1, by rw [a.len]; exact hl, h ρ FH H σ' σ g _ _ Q R a hg⟩
    · exact hg.elim
  | lst h1 a => exact hg.elim
  | non => exact hg.elim
  | bl _ => exact hg.elim
  | int _ => exact hg.elim
  | str _ => exact hg.elim

/-! ### arguments, calls -/
def ArgRel (K : PySem.W.Frag) (ρ : Rho) (FH : Hp) (v : V) : SV → Prop
  | .fz d => Dq K FH v d
  | .deal => ∃ dl c, ρ = some (dl, c) ∧ v = .ref dl
  | _ => False
inductive ArgAll (K : PySem.W.Frag) (ρ : Rho) (FH : Hp) : List V → List SV → Prop
  | nil : ArgAll K ρ FH [] []
  | cons {v : V} {vs : List V} {a : SV} {as : List SV} : ArgRel K ρ FH v a → ArgAll K ρ FH vs as → ArgAll K ρ FH (v :: vs) (a :: as)
theorem ArgRel.up {K : PySem.W.Frag} (S : Sub FH FH2) {v : V} : ∀ {a : SV}, ArgRel K ρ FH v a → ArgRel K ρ FH2 v a
  | .fz d, h => Dq.up S d h
  | .deal, h => h
theorem ArgAll.len {K : PySem.W.Frag} : ∀ {vs : List V} {as : List SV}, ArgAll K ρ FH vs as → vs.length = as.length
  | _, _, .nil => rfl
  | _, _, .cons _ h => by rw [List.length_cons, List.length_cons, ArgAll.len h]
def SndAS (Y : Yx) (ta : TA) (f : Ev (List SV)) : Prop :=
  ∀ (ρ : Rho) (FH H : Hp) (σ' : St) (σ : Sl) (g : G) (Q : List V → Hp → Prop), Rep Y ρ FH H σ' σ g → Good Y (f σ g) (fun as σ2 g2 => ∀ vs FH2 H2, Rep Y ρ FH2 H2 σ' σ2 g2 → Sub FH FH2 → Evo σ σ2 → ArgAll Y.K ρ FH2 vs as → Q vs H2) → ta σ' H Q
theorem snd_cANil : SndAS Y tNil cANil := by
  intro ρ FH H σ' σ g Q R hg
  exact hg [] FH H R (Sub.refl _) (Evo.refl _) .nil
theorem snd_cACons {te : TE} {t : TA} {f : Ev SV} {r : Ev (List SV)} (ha : SndE Y (RelO Y) te f) (hr : SndAS Y t r) : SndAS Y (tCons te t) (cACons f r) := by
  intro ρ FH H σ' σ g Q R hg
  refine ha ρ FH H σ' σ g _ R (hg.bind.mono fun sv σ2 g2 q v FH2 H2 R2 S E rel => ?_)
  obtain ⟨a, e, q⟩ := q.bind.lift
  have key : ∃ FH3, Rep Y ρ FH3 H2 σ' σ2 g2 ∧ Sub FH2 FH3 ∧ ArgRel Y.K ρ FH3 v a := by
    cases sv with
    | fz d =>
      simp only [argOk, Option.some.injEq] at e
      subst e
      exact ⟨FH2, R2, Sub.refl _, rel⟩
    | ow ds =>
      simp only [argOk, Option.some.injEq] at e
      subst e
      obtain ⟨p, vs, rfl, F⟩ := rel
      exact ⟨_, R2.freeze F, Sub.new F.f, dq_frozen F.f F.a⟩
    | deal =>
      simp only [argOk, Option.some.injEq] at e
      subst e
      exact ⟨FH2, R2, Sub.refl _, rel⟩
    | nd _ _ _ => simp [argOk] at e
  obtain ⟨FH3, R3, S3, rel3⟩ := key
  refine hr ρ FH3 H2 σ' σ2 g2 _ R3 (q.bind.mono fun as σ4 g4 q vs FH4 H4 R4 S4 E4 rel4 => ?_)
  exact q _ FH4 H4 R4 ((S.trans S3).trans S4) (E.trans E4) (.cons (rel3.up S4) rel4)
/-- what a def hands back -/
def RetOk (K : PySem.W.Frag) (H FH2 H2 : Hp) (v : V) : SV → Prop
  | .fz d => Dq K FH2 v d
  | .ow ds => ∃ p vs, v = .ref p ∧ FH2 p = none ∧ H2 p = some (.lst vs) ∧ DqAll K FH2 vs ds ∧ H p = none
  | .nd r i t => ∃ p c vr vt, v = .ref p ∧ FH2 p = none ∧ FH2 c = none ∧ H2 p = some (.lst [vr, .ref c, vt]) ∧ H2 c = some (.lst [.int i]) ∧ Dq K FH2 vr r ∧ Dq K FH2 vt t ∧ H p = none ∧ H c = none ∧ p ≠ c
  | .deal => False
/-- a def's promise: it does what sem says -/
abbrev XCT := Rho → Hp → Hp → Exn → G → XK → Prop
def spF (K : PySem.W.Frag) (XC : XCT) (lw : Bool) (ar : Nat) (sem : List SV → G → FOut) : Sp := fun vs H Q E => ∃ (ρ : Rho) (FH : Hp) (as : List SV) (g : G), (lw = true → ρ = none) ∧ Sub FH H ∧ (∀ dl c, ρ = some (dl, c) → DeckOk K FH H dl c g) ∧ ArgAll K ρ FH vs as ∧ as.length = ar ∧
  match sem as g with
  | .ok r g2 => ∀ v FH2 H2, Ext ρ FH H FH2 H2 → Sub FH2 H2 → (∀ dl c, ρ = some (dl, c) → DeckOk K FH2 H2 dl c g2) → RetOk K H FH2 H2 v r → Q v H2
  | .exc e g2 => XC ρ FH H e g2 E
  | .stuck => False
theorem spF_len {K : PySem.W.Frag} {XC : XCT} {lw : Bool} {ar : Nat} {sem : List SV → G → FOut} : ∀ vs H Q E, spF K XC lw ar sem vs H Q E → vs.length = ar := fun vs H Q E h => by
  obtain ⟨ρ, FH, as, g, _, _, _, h3, h4, _⟩ := h
  rw [h3.len, h4]
/-- behind a call -/
theorem Rep.after (R : Rep Y ρ FH H σ' σ g) (e : Ext ρ FH H FH2 H2) (s : Sub FH2 H2) (d : ∀ dl c, ρ = some (dl, c) → DeckOk Y.K FH2 H2 dl c g2) : Rep Y ρ FH2 H2 σ' σ g2 := by
  have nf : ∀ p vs, H p = some (HO.lst vs) → FH p = none → FH2 p = none := fun p vs h1 h2 => by
    cases q : FH2 p with
    | none => rfl
    | some o =>
      rcases e.new p o q with z | z
      · rw [h2] at z
        cases z
      · rw [h1] at z
        cases z
  refine ⟨s, R.len, fun i d' h => ?_, fun i ds h => ?_, R.dis, R.nond, R.dl, d, ⟨R.ext.fsub.trans e.fsub, fun a o h hc => ?_, fun a o h => ?_, fun a o h => ?_⟩, R.rho, R.cf, fun p vs h => ?_⟩
  · obtain ⟨v, h1, h2⟩ := R.fz i d' h
    exact ⟨v, h1, Dq.up e.fsub d' h2⟩
  · obtain ⟨p, vs, h1, h2, h3, h4, h5, h6⟩ := R.ow i ds h
    exact ⟨p, vs, h1, nf p vs h3 h2, e.hsub p _ h3 h6, DqAll.up e.fsub ds h4, h5, h6⟩
  · refine e.hsub a o (R.ext.hsub a o h hc) fun dl c hr => ?_
    rcases R.cf dl c hr with z | z
    · exact hc dl c z
    · intro w
      rw [w, z] at h
      cases h
  · rcases e.new a o h with z | z
    · exact R.ext.new a o z
    · right
      cases q : Y.H0 a with
      | none => rfl
      | some u =>
        obtain ⟨o', w⟩ := R.ext.there a u q
        rw [z] at w
        cases w
  · obtain ⟨o', q⟩ := R.ext.there a o h
    exact e.there a o' q
  · obtain ⟨h1, h2, h3, h4⟩ := R.pend p vs h
    exact ⟨e.hsub p _ h1 h4.1, nf p vs h1 h2, h3, h4⟩
theorem RetOk.own (R : Rep Y ρ FH H σ' σ g) {v : V} {r : SV} (h : RetOk Y.K H FH2 H2 v r) : RelO Y ρ FH2 H2 σ' σ v r := by
  cases r with
  | fz d => exact h
  | ow ds =>
    obtain ⟨p, vs, rfl, h1, h2, h3, h4⟩ := h
    exact ⟨p, vs, rfl, h1, h2, h3, R.old h4, R.cellNe h4, R.slotNe h4, R.pdNe h4⟩
  | nd r i t =>
    obtain ⟨p, c, vr, vt, rfl, h1, h2, h3, h4, h5, h6, h7, h8, h9⟩ := h
    exact ⟨p, c, vr, vt, rfl, h1, h2, h3, h4, h5, h6, R.old h7, R.old h8, h9, fun j es hj => ⟨R.slotNe h7 j es hj, R.slotNe h8 j es hj⟩, fun dl c' hr => ⟨R.cellNe h7 dl c' hr, R.cellNe h8 dl c' hr⟩, R.pdNe h7, R.pdNe h8⟩
  | deal => exact h.elim
theorem snd_cCall {t : TA} {r : Ev (List SV)} {ct : CT} {k ar : Nat} {XC : XCT} {E : St → XK} (hr : SndAS Y t r)
    (har : ∀ as g, ct k as g ≠ .stuck → as.length = ar)
    (hx : ∀ (e : Exn) (σ : Sl) (g g3 : G) (ρ : Rho) (FH H : Hp) (σ' : St), Y.Ex e σ g3 → Rep Y ρ FH H σ' σ g → XC ρ FH H e g3 (E σ')) :
    SndE Y (RelO Y) (L2.tCallSD (spF Y.K XC false ar (ct k)) [] E t) (cCall ct k r) := by
  intro ρ FH H σ' σ g Q R hg
  refine hr ρ FH H σ' σ g _ R (hg.bind.mono fun as σ2 g2 q vs FH2 H2 R2 S Ev rel => ?_)
  show spF Y.K XC false ar (ct k) (vs ++ []) H2 Q (E σ')
  rw [List.append_nil]
  refine ⟨ρ, FH2, as, g2, (fun z => nomatch z), R2.sub, R2.deck, rel, har as g2 ?_, ?_⟩
  · intro z
    rw [z] at q
    exact q
  · cases e : ct k as g2 with
    | ok v g3 =>
      rw [e] at q
      intro w FH3 H3 x s d ro
      exact q w FH3 H3 (R2.after x s d) (S.trans x.fsub) Ev (ro.own R2)
    | exc e' g3 =>
      rw [e] at q
      exact hx e' σ2 g2 g3 ρ FH2 H2 σ' q R2
    | stuck =>
      rw [e] at q
      exact q
/-! ### the deck -/
theorem snd_cVIx {i : Nat} {tb : TE} {f : Ev D} (hb : SndE Y (RelP Y) tb f) : SndE Y (RelO Y) (tOp (L2.rIx Y.K) (tVar i) tb) (cVIx i f) := by
  intro ρ FH H σ' σ g Q R hg
  unfold cVIx at hg
  split at hg
  · rename_i e
    obtain ⟨dl, c, h1, h2⟩ := R.dl i e
    refine ⟨_, h2, hb ρ FH H σ' σ g _ R (hg.bind.mono fun b σ2 g2 q u FH2 H2 R2 S E rel => ?_)⟩
    obtain ⟨vr, vt, q1, q2, q3, q4, q5⟩ := R2.deck dl c h1
    have hs : SqL Y.K H2 dl [vr, .ref c, vt] := .inl (.inl (R2.sub _ _ q1))
    split at q
    · rw [rel.int]
      exact .inl ⟨dl, _, 0, vr, rfl, rfl, hs, L2.atI_nat (j := 0) rfl, q _ FH2 H2 R2 S E q2⟩
    · rw [rel.int]
      exact .inl ⟨dl, _, 2, vt, rfl, rfl, hs, L2.atI_nat (j := 2) rfl, q _ FH2 H2 R2 S E q3⟩
    · exact q.elim
  · exact snd_c2 snd_cVP hb o2_ix ρ FH H σ' σ g Q R hg
theorem snd_cV10 {i : Nat} : SndE Y (RelO Y) (tOp (L2.rIx Y.K) (tOp (L2.rIx Y.K) (tVar i) (tC (.int 1))) (tC (.int 0))) (cV10 i) := by
  intro ρ FH H σ' σ g Q R hg
  unfold cV10 at hg
  split at hg
  · rename_i e
    obtain ⟨dl, c, h1, h2⟩ := R.dl i e
    obtain ⟨vr, vt, q1, q2, q3, q4, q5⟩ := R.deck dl c h1
    have hs : SqL Y.K H dl [vr, .ref c, vt] := .inl (.inl (R.sub _ _ q1))
    exact ⟨_, h2, .inl ⟨dl, _, 1, .ref c, rfl, rfl, hs, L2.atI_nat (j := 1) rfl, .inl ⟨c, _, 0, .int g.at_, rfl, rfl, .inl (.inl q5), L2.atI_nat (j := 0) rfl, hg _ FH H R (Sub.refl _) (Evo.refl _) (.int _)⟩⟩⟩
  · exact snd_c2 (snd_P (snd_cD (snd_c2 snd_cVP (snd_P (snd_cD (snd_cK (.int 1)))) o2_ix))) (snd_P (snd_cD (snd_cK (.int 0)))) o2_ix ρ FH H σ' σ g Q R hg
end
end
end FD
/-! FD9: comprehensions. -/
namespace FD
noncomputable section
open PySem
open L2 (Hp HO V upd upd_same upd_ne ne_of_none Rd SqL SqT Vals RelV VK TE TT TA TS TG TGs St XK Cx PE PT PW PA PS PSs PG PGs PI Inv OpR UnR CallR R2 rI0 rI tOp tUn tVar tC tCB tCons tNil SlR IxR MtR It TI XK Sp wipe tLc)
section
variable {Y : Yx} {ρ : Rho} {FH H FH2 H2 : Hp} {σ' : St} {σ σ2 : Sl} {g g2 : G}
/-- within a comprehension whose list at p holds acc; no exception leaves -/
def Yx.under (Y : Yx) (p : Addr) (acc : List V) : Yx := { Y with Ex := fun _ _ _ => False, pd := fun q => if q = p then some acc else Y.pd q }
theorem Rep.toUnder (R : Rep Y ρ FH H σ' σ g) {p : Addr} {acc : List V} (F : FH p = none) (hp : H p = some (.lst acc)) (h0 : Y.H0 p = none) (hc : ∀ dl c, ρ = some (dl, c) → p ≠ c) (hs : ∀ (i : Nat) (es : List D), σ[i]? = some (some (.ow es)) → σ'[i]? ≠ some (some (.ref p))) :
    Rep (Y.under p acc) ρ FH H σ' σ g :=
  ⟨R.sub, R.len, R.fz, R.ow, R.dis, R.nond, R.dl, R.deck, R.ext, R.rho, R.cf, fun q vs h => by
    have h : (if q = p then some acc else Y.pd q) = some vs := h
    by_cases z : q = p
    · rw [if_pos z] at h
      cases h
      subst z
      exact ⟨hp, F, hs, hc, h0⟩
    · rw [if_neg z] at h
      exact R.pend q vs h⟩
theorem Rep.ofUnder {p : Addr} {acc : List V} (R : Rep (Y.under p acc) ρ FH H σ' σ g) (hn : Y.pd p = none) : Rep Y ρ FH H σ' σ g :=
  ⟨R.sub, R.len, R.fz, R.ow, R.dis, R.nond, R.dl, R.deck, R.ext, R.rho, R.cf, fun q vs h => R.pend q vs (by
    show (if q = p then some acc else Y.pd q) = some vs
    by_cases z : q = p
    · rw [z, hn] at h
      cases h
    · rw [if_neg z]
      exact h)⟩
theorem Rep.underAt {p : Addr} {acc : List V} (R : Rep (Y.under p acc) ρ FH H σ' σ g) : H p = some (.lst acc) ∧ FH p = none ∧ (∀ (i : Nat) (es : List D), σ[i]? = some (some (.ow es)) → σ'[i]? ≠ some (some (.ref p))) ∧ (∀ dl c, ρ = some (dl, c) → p ≠ c) ∧ Y.H0 p = none :=
  R.pend p acc (by
    show (if p = p then some acc else Y.pd p) = some acc
    rw [if_pos rfl])
/-- the list under way grows -/
theorem Rep.grow {p : Addr} {acc acc2 : List V} (R : Rep (Y.under p acc) ρ FH H σ' σ g) : Rep (Y.under p acc2) ρ FH (upd H p (.lst acc2)) σ' σ g := by
  obtain ⟨a1, a2, a3, a4, a5⟩ := R.underAt
  refine ⟨R.sub.upd2 a2, R.len, R.fz, fun i ds h => ?_, R.dis, R.nond, R.dl, fun dl c h => ?_, ⟨R.ext.fsub, fun a u h hc => ?_, R.ext.new, fun a u h => ?_⟩, R.rho, R.cf, fun q vs h => ?_⟩
  · obtain ⟨q, vs, h1, h2, h3, h4, h5, h6⟩ := R.ow i ds h
    have z : q ≠ p := fun e => a3 i ds h (by rw [h1, e])
    exact ⟨q, vs, h1, h2, by rw [upd_ne z]; exact h3, h4, h5, h6⟩
  · obtain ⟨vr, vt, h1, h2, h3, h4, h5⟩ := R.deck dl c h
    exact ⟨vr, vt, h1, h2, h3, h4, by rw [upd_ne (a4 dl c h).symm]; exact h5⟩
  · have z : a ≠ p := fun e => by
      have h : Y.H0 a = some u := h
      rw [e, a5] at h
      cases h
    rw [upd_ne z]
    exact R.ext.hsub a u h hc
  · have z : a ≠ p := fun e => by
      have h : Y.H0 a = some u := h
      rw [e, a5] at h
      cases h
    rw [upd_ne z]
    exact R.ext.there a u h
  · have h : (if q = p then some acc2 else Y.pd q) = some vs := h
    by_cases z : q = p
    · rw [if_pos z] at h
      cases h
      subst z
      exact ⟨upd_same, a2, a3, a4, a5⟩
    · rw [if_neg z] at h
      have h' : (Y.under p acc).pd q = some vs := by
        show (if q = p then some acc else Y.pd q) = some vs
        rw [if_neg z]
        exact h
      obtain ⟨b1, b2, b3, b4⟩ := R.pend q vs h'
      exact ⟨by rw [upd_ne z]; exact b1, b2, b3, b4⟩
theorem good_noX {α : Type} {o : Out α} {P : α → Sl → G → Prop} (h : Good Y (noX o) P) (p : Addr) (acc : List V) : Good (Y.under p acc) o P := by
  cases o with
  | ok a σ g => exact h
  | exc e σ g => exact h.elim
  | stuck => exact h.elim
/-- as Evo, but for the slots of vs -/
def EvoX (vs : List Nat) (σ σ2 : Sl) : Prop := σ2.length = σ.length ∧ ∀ i : Nat, i ∉ vs → σ2[i]? = σ[i]? ∨ ∃ ds, σ[i]? = some (some (.ow ds)) ∧ σ2[i]? = some (some (.fz (.list ds)))
theorem EvoX.step {vs : List Nat} {a b c d : Sl} (h : EvoX vs a b) (ag : Agree vs b c) (e : Evo c d) : EvoX vs a (wipeS d vs) := by
  refine ⟨by rw [wipeS_len, e.1, ← ag.1, h.1], fun i hi => ?_⟩
  rw [wipeS_get, if_neg (fun z => hi z.1)]
  rcases e.2 i with q | ⟨ds, q1, q2⟩
  · rw [q, ← ag.2 i hi]
    exact h.2 i hi
  · rw [← ag.2 i hi] at q1
    rcases h.2 i hi with z | ⟨es, z1, z2⟩
    · rw [z] at q1
      exact .inr ⟨ds, q1, q2⟩
    · rw [z2] at q1
      cases q1
theorem backS_len (σ0 σ : Sl) : ∀ vs, (backS σ0 σ vs).length = σ.length
  | [] => rfl
  | v :: vs => by
    unfold backS
    split
    · rw [List.length_set, backS_len σ0 σ vs]
    · exact backS_len σ0 σ vs
theorem backS_get {σ0 σ : Sl} (hl : σ0.length = σ.length) : ∀ (vs : List Nat) (i : Nat), (backS σ0 σ vs)[i]? = if i ∈ vs then σ0[i]? else σ[i]?
  | [], i => by simp [backS]
  | v :: vs, i => by
    have ih := backS_get hl vs i
    unfold backS
    have e : (i ∈ v :: vs) ↔ (i = v ∨ i ∈ vs) := List.mem_cons
    split
    · rename_i o ho
      by_cases z : v = i
      · subst z
        have w : v < σ.length := by rw [← hl]; exact (List.getElem?_eq_some_iff.mp ho).1
        rw [List.getElem?_set_self (by rw [backS_len]; exact w), if_pos List.mem_cons_self, ho]
      · rw [List.getElem?_set_ne z, ih]
        have e' : (i ∈ v :: vs) ↔ i ∈ vs := ⟨fun h => (e.mp h).resolve_left (fun q => z q.symm), fun h => e.mpr (.inr h)⟩
        simp only [e']
    · rename_i ho
      rw [ih]
      by_cases z : i = v
      · subst z
        have w : σ.length ≤ i := by rw [← hl]; exact List.getElem?_eq_none_iff.mp ho
        rw [if_pos List.mem_cons_self, ho]
        split
        · rfl
        · exact List.getElem?_eq_none w
      · have e' : (i ∈ v :: vs) ↔ i ∈ vs := ⟨fun h => (e.mp h).resolve_left z, fun h => e.mpr (.inr h)⟩
        simp only [e']
theorem idle_get {σ : Sl} : ∀ {vs : List Nat}, idleS σ vs = true → ∀ i ∈ vs, ∀ x, σ[i]? = some (some x) → ∃ d, x = .fz d
  | [], _, i, hi, _, _ => by simp at hi
  | v :: vs, h, i, hi, x, hx => by
    unfold idleS at h
    rw [Bool.and_eq_true] at h
    rcases List.mem_cons.mp hi with rfl | hi
    · have h1 := h.1
      rw [hx] at h1
      cases x with
      | fz d => exact ⟨d, rfl⟩
      | _ => simp at h1
    · exact idle_get h.2 i hi x hx
theorem wipe_agree (vs : List Nat) (a : St) : Agree vs a (wipe a vs) := ⟨(wipe_len a vs).symm, fun i hi => by rw [wipe_get, if_neg (fun z => hi z.1)]⟩

theorem snd_cLc {it : Ev (List D)} {vs : List Nat} {tg : TgF} {t : Ev Bool} {f : Ev D} {wi : TI} {gt : TG} {tt : TT} {te : TE} (hi : SndI Y wi it) (hg' : ∀ p acc, SndG (Y.under p acc) vs gt tg) (ht : ∀ p acc, SndT (Y.under p acc) tt t)
    (he : ∀ p acc, SndE (Y.under p acc) (RelD (Y.under p acc)) te f) : SndE Y (RelO Y) (tLc wi gt tt te vs) (cLc it vs tg t f) := by
  intro ρ FH H σ' σ g Q R hg
  refine hi ρ FH H σ' σ g _ R (hg.bind.mono fun xs σ1 g1 q J FH1 H1 R1 S1 E1 io => ?_)
  split at q
  next idle =>
    intro Dp hD
    have q0 := (good_noX q Dp []).bind
    -- what holds between two turns
    let P : List D → Sl → G → Prop := fun ys σ2 g2 => Good Y (Out.ok (SV.ow ys) (backS σ1 σ2 vs) g2) (fun a σ3 g3 => ∀ v FH2 H2, Rep Y ρ FH2 H2 σ' σ3 g3 → Sub FH FH2 → Evo σ σ3 → RelO Y ρ FH2 H2 σ' σ3 v a → Q v H2)
    refine ⟨fun i m Hi => ∃ (σi : Sl) (gi : G) (FHi : Hp) (av : List V) (ad : List D), m = xs.length - i ∧ i ≤ xs.length ∧ Rep (Y.under Dp av) ρ FHi Hi (wipe σ' vs) σi gi ∧ Sub FH1 FHi ∧ EvoX vs σ1 σi ∧ DqAll Y.K FHi av ad ∧
      Good (Y.under Dp av) (compL tg t f vs (xs.drop i) ad σi gi) P, ?_, ?_⟩
    · refine ⟨_, wipeS σ1 vs, g1, FH1, [], [], rfl, Nat.zero_le _, ?_, Sub.refl _, ⟨wipeS_len _ _, fun i hi => .inl (by rw [wipeS_get, if_neg (fun z => hi z.1)])⟩, .nil, q0⟩
      have R2 : Rep Y ρ FH1 (upd H1 Dp (.lst [])) σ' σ1 g1 := R1.newL hD
      have R3 : Rep Y ρ FH1 (upd H1 Dp (.lst [])) (wipe σ' vs) (wipeS σ1 vs) g1 := R2.forget (by rw [wipe_len, wipeS_len]; exact R1.len) fun i x h => by
        rw [wipeS_get] at h
        split at h
        · cases h
        · rename_i z
          refine ⟨h, ?_⟩
          have hlt : i < σ1.length := (List.getElem?_eq_some_iff.mp h).1
          rw [wipe_get, if_neg (fun w => z ⟨w.1, hlt⟩)]
      refine R3.toUnder (R1.sub.free hD) upd_same (R1.old hD) (R1.cellNe hD) fun i es h e => ?_
      obtain ⟨p, ws, h1, _, h3, _⟩ := R3.ow i es h
      rw [h1] at e
      cases e
      rw [wipeS_get] at h
      by_cases w : i ∈ vs ∧ i < σ1.length
      · rw [if_pos w] at h
        cases h
      · rw [if_neg w] at h
        obtain ⟨p2, ws2, z1, _, z3, _⟩ := R1.ow i es h
        have hlt : i < σ1.length := (List.getElem?_eq_some_iff.mp h).1
        rw [wipe_get, if_neg (fun y => w ⟨y.1, hlt⟩), z1] at h1
        cases h1
        rw [hD] at z3
        cases z3
    · rintro i m Hi ⟨σi, gi, FHi, av, ad, rfl, hle, Ri, Si, Ei, Ai, Gi⟩
      obtain ⟨d1, d2, d3, d4, d5⟩ := Ri.underAt
      have io' := io i ρ FHi Hi _ σi gi (Ri.ofUnder (Y := Y) (R1.pdNe hD)) Si
      by_cases hlt : i < xs.length
      · -- one more turn
        obtain ⟨go, yl⟩ := io'.1 xs[i] (List.getElem?_eq_getElem hlt)
        refine .inr ⟨go, fun H' => ∃ (σj : Sl) (gj : G) (FHj : Hp) (av : List V) (ad : List D), Rep (Y.under Dp av) ρ FHj H' (wipe σ' vs) σj gj ∧ Sub FH1 FHj ∧ EvoX vs σ1 σj ∧ DqAll Y.K FHj av ad ∧ Good (Y.under Dp av) (compL tg t f vs (xs.drop (i + 1)) ad σj gj) P,
          fun H' ⟨σj, gj, FHj, av, ad, w1, w2, w3, w4, w5⟩ => ⟨xs.length - (i + 1), by omega, σj, gj, FHj, av, ad, rfl, hlt, w1, w2, w3, w4, w5⟩, fun x H' y => ?_⟩
        obtain ⟨FH', nr⟩ := yl x H' y
        obtain ⟨R', S'⟩ := Ri.res (Y := Y.under Dp av) nr
        have Gi2 : Good (Y.under Dp av) ((tg xs[i] σi gi).bind fun _ σ1 g1 => (t σ1 g1).bind fun b σ2 g2 =>
            if b = true then (f σ2 g2).bind fun y σ3 g3 => if ad.length < 16777216 then compL tg t f vs (xs.drop (i + 1)) (ad ++ [y]) (wipeS σ3 vs) g3 else .stuck
            else compL tg t f vs (xs.drop (i + 1)) ad (wipeS σ2 vs) g2) P := by
          rw [List.drop_eq_getElem_cons hlt] at Gi
          exact Gi
        refine hg' Dp av ρ FH' H' _ σi gi x xs[i] _ R' nr.1 (Gi2.bind.mono fun _ σ2 g2 q2 σ2' FH2 H2 R2 S2 A1 A2 => ?_)
        have ew : wipe σ2' vs = wipe σ' vs := by
          rw [← A1.wipe]
          exact ((wipe_agree vs σ').wipe).symm
        refine ⟨by rw [ew], ?_⟩
        refine ht Dp av ρ FH2 H2 σ2' σ2 g2 _ R2 (q2.bind.mono fun b σ3 g3 q3 FH3 H3 R3 S3 E3 => ?_)
        -- the slots at a turn's end
        have endSlots : ∀ {σ4 : Sl} {g4 : G} {FH4 H4 : Hp} {acc : List V}, Rep (Y.under Dp acc) ρ FH4 H4 σ2' σ4 g4 → Evo σ2 σ4 → Rep (Y.under Dp acc) ρ FH4 H4 (wipe σ' vs) (wipeS σ4 vs) g4 := fun {σ4 g4 FH4 H4 acc} R4 E4 => by
          refine R4.forget ?_ fun j z h => ?_
          · have := R4.len
            rw [wipeS_len, ← this, wipe_len]
            have a := A1.1
            rw [wipe_len] at a
            exact a
          · rw [wipeS_get] at h
            split at h
            · cases h
            · rename_i w
              refine ⟨h, ?_⟩
              have hlt : j < σ4.length := (List.getElem?_eq_some_iff.mp h).1
              have hj : j ∉ vs := fun y => w ⟨y, hlt⟩
              exact A1.2 j hj
        cases b with
        | true =>
          rw [if_pos rfl] at q3 ⊢
          refine he Dp av ρ FH3 H3 σ2' σ3 g3 _ R3 (q3.bind.mono fun y' σ4 g4 q4 v4 FH4 H4 R4 S4 E4 rel => ?_)
          split at q4
          next hsz =>
            have all := ((S'.trans S2).trans S3).trans S4
            refine ⟨av, R4.underAt.1, by rw [Ai.len, sl16]; exact hsz, wipeS σ4 vs, g4, FH4, av ++ [v4], ad ++ [y'], (endSlots R4 (E3.trans E4)).grow, Si.trans all, Ei.step A2 (E3.trans E4), (DqAll.up all _ Ai).app (.one rel), ?_⟩
            exact q4
          next => exact q4.elim
        | false =>
          rw [if_neg Bool.false_ne_true] at q3 ⊢
          have all := (S'.trans S2).trans S3
          exact ⟨wipeS σ3 vs, g3, FH3, av, ad, endSlots R3 E3, Si.trans all, Ei.step A2 E3, DqAll.up all _ Ai, q3⟩
      · -- the end
        have e : i = xs.length := by omega
        subst e
        refine .inl ⟨io'.2 (Nat.le_refl _), ?_⟩
        rw [List.drop_length] at Gi
        have fin : P ad σi gi := Gi
        have hl : σ1.length = σi.length := Ei.1.symm
        have Rb := Ri.ofUnder (Y := Y) (R1.pdNe hD)
        have slot : ∀ (j : Nat) (x : SV), (backS σ1 σi vs)[j]? = some (some x) → (j ∈ vs ∧ σ1[j]? = some (some x) ∧ ∃ d, x = .fz d) ∨ (j ∉ vs ∧ σi[j]? = some (some x) ∧ (wipe σ' vs)[j]? = σ'[j]?) := fun j x h => by
          rw [backS_get hl] at h
          by_cases z : j ∈ vs
          · rw [if_pos z] at h
            exact .inl ⟨z, h, idle_get idle j z x h⟩
          · rw [if_neg z] at h
            exact .inr ⟨z, h, by rw [wipe_get, if_neg (fun y => z y.1)]⟩
        have R3 : Rep Y ρ FHi Hi σ' (backS σ1 σi vs) gi := by
          refine ⟨Rb.sub, by rw [backS_len, ← hl]; exact R1.len, fun j d h => ?_, fun j es h => ?_, fun j k es fs p a1 a2 a3 a4 => ?_, fun j r a t h => ?_, fun j h => ?_, Rb.deck, Rb.ext, Rb.rho, Rb.cf, fun p ws h => ?_⟩
          · rcases slot j _ h with ⟨_, z, _⟩ | ⟨_, z, w⟩
            · obtain ⟨v, b1, b2⟩ := R1.fz j d z
              exact ⟨v, b1, Dq.up Si d b2⟩
            · rw [← w]
              exact Rb.fz j d z
          · rcases slot j _ h with ⟨_, _, d, z⟩ | ⟨_, z, w⟩
            · cases z
            · rw [← w]
              exact Rb.ow j es z
          · rcases slot j _ a1 with ⟨_, _, d, z⟩ | ⟨_, z1, w1⟩
            · cases z
            · rcases slot k _ a2 with ⟨_, _, d, z⟩ | ⟨_, z2, w2⟩
              · cases z
              · rw [← w1] at a3
                rw [← w2] at a4
                exact Rb.dis j k es fs p z1 z2 a3 a4
          · rcases slot j _ h with ⟨_, _, d, z⟩ | ⟨_, z, _⟩
            · cases z
            · exact Rb.nond j r a t z
          · rcases slot j _ h with ⟨_, _, d, z⟩ | ⟨_, z, w⟩
            · cases z
            · rw [← w]
              exact Rb.dl j z
          · obtain ⟨b1, b2, b3, b4⟩ := Rb.pend p ws h
            refine ⟨b1, b2, fun j es hj => ?_, b4⟩
            rcases slot j _ hj with ⟨_, _, d, z⟩ | ⟨_, z, w⟩
            · cases z
            · rw [← w]
              exact b3 j es z
        refine fin (.ref Dp) FHi Hi R3 (S1.trans Si) (E1.trans ⟨by rw [backS_len, hl], fun j => ?_⟩) ⟨Dp, av, rfl, d2, d1, Ai, d5, d4, fun j es hj => ?_, R1.pdNe hD⟩
        · rw [backS_get hl]
          by_cases z : j ∈ vs
          · rw [if_pos z]
            exact .inl rfl
          · rw [if_neg z]
            exact Ei.2 j z
        · rcases slot j _ hj with ⟨_, _, d, z⟩ | ⟨_, z, w⟩
          · cases z
          · rw [← w]
            exact d3 j es z
  next => exact q.elim
end
end
end FD
/-! FD10: statements. -/
namespace FD
noncomputable section
open PySem
open L2 (Hp HO V upd upd_same upd_ne ne_of_none Rd SqL SqT Vals RelV VK TE TT TA TS TG TGs St XK Cx PE PT PW PA PS PSs PG PGs PI Inv OpR UnR CallR R2 rI0 rI tOp tUn tVar tC tCB tCons tNil SlR IxR MtR It TI XK Sp wipe tLc Ends)
/-- behind a statement -/
def Aft (Y : Yx) (FH : Hp) (Dn : Ends) (fl : Fl) (σ2 : Sl) (g2 : G) : Prop := match fl with
  | .nx => ∀ ρ2 FH2 H2 σ2', Rep Y ρ2 FH2 H2 σ2' σ2 g2 → Sub FH FH2 → Dn.nx σ2' H2
  | .bk => ∀ ρ2 FH2 H2 σ2', Rep Y ρ2 FH2 H2 σ2' σ2 g2 → Sub FH FH2 → Dn.bk σ2' H2
  | .ct => ∀ ρ2 FH2 H2 σ2', Rep Y ρ2 FH2 H2 σ2' σ2 g2 → Sub FH FH2 → Dn.ct σ2' H2
  | .rt r => ∀ ρ2 FH2 H2 σ2' v, Rep Y ρ2 FH2 H2 σ2' σ2 g2 → Sub FH FH2 → RelO Y ρ2 FH2 H2 σ2' σ2 v r → Dn.rt v H2
def SndS (Y : Yx) (ts : TS) (f : Ev Fl) : Prop :=
  ∀ (ρ : Rho) (FH H : Hp) (σ' : St) (σ : Sl) (g : G) (Dn : Ends), Rep Y ρ FH H σ' σ g → Good Y (f σ g) (Aft Y FH Dn) → ts Dn σ' H
section
variable {Y : Yx} {ρ : Rho} {FH H FH2 H2 : Hp} {σ' : St} {σ σ2 : Sl} {g g2 : G} {ta tb tc te : TE} {f f1 f2 f3 : Ev D} {fo : Ev SV} {t1 t2 : TS} {s1 s2 : Ev Fl}
theorem Aft.up (S : Sub FH FH2) {Dn : Ends} {fl : Fl} {σ2 : Sl} {g2 : G} (h : Aft Y FH Dn fl σ2 g2) : Aft Y FH2 Dn fl σ2 g2 := by
  cases fl with
  | nx => exact fun ρ2 FH3 H3 σ3 R S3 => h ρ2 FH3 H3 σ3 R (S.trans S3)
  | bk => exact fun ρ2 FH3 H3 σ3 R S3 => h ρ2 FH3 H3 σ3 R (S.trans S3)
  | ct => exact fun ρ2 FH3 H3 σ3 R S3 => h ρ2 FH3 H3 σ3 R (S.trans S3)
  | rt r => exact fun ρ2 FH3 H3 σ3 v R S3 => h ρ2 FH3 H3 σ3 v R (S.trans S3)
theorem snd_sPass : SndS Y L2.tNext sPass := fun ρ FH H σ' σ g Dn R hg => hg ρ FH H σ' R (Sub.refl _)
theorem snd_sBrk : SndS Y L2.tBreak sBrk := fun ρ FH H σ' σ g Dn R hg => hg ρ FH H σ' R (Sub.refl _)
theorem snd_sCnt : SndS Y L2.tCont sCnt := fun ρ FH H σ' σ g Dn R hg => hg ρ FH H σ' R (Sub.refl _)
theorem snd_sSeq (h1 : SndS Y t1 s1) (h2 : SndS Y t2 s2) : SndS Y (L2.tSeq t1 t2) (sSeq s1 s2) := by
  intro ρ FH H σ' σ g Dn R hg
  refine h1 ρ FH H σ' σ g _ R (hg.bind.mono fun fl σ2 g2 q => ?_)
  cases fl with
  | nx => exact fun ρ2 FH2 H2 σ2' R2 S => h2 ρ2 FH2 H2 σ2' σ2 g2 Dn R2 (q.mono fun fl σ3 g3 q => q.up S)
  | bk => exact q
  | ct => exact q
  | rt r => exact q
theorem snd_sRet (h : SndE Y (RelO Y) te fo) : SndS Y (L2.tRet te) (sRet fo) := by
  intro ρ FH H σ' σ g Dn R hg
  refine h ρ FH H σ' σ g _ R (hg.bind.mono fun sv σ2 g2 q v FH2 H2 R2 S E rel => ?_)
  cases sv with
  | fz d => exact q ρ FH2 H2 σ' v R2 S rel
  | ow ds => exact q ρ FH2 H2 σ' v R2 S rel
  | nd _ _ _ => exact q ρ FH2 H2 σ' v R2 S rel
  | deal => exact q.elim
theorem snd_sRetV {i : Nat} : SndS Y (L2.tRet (tVar i)) (sRet (cVR i)) := by
  intro ρ FH H σ' σ g Dn R hg
  have hg : Good Y ((cVR i σ g).bind _) (Aft Y FH Dn) := hg
  unfold cVR at hg
  split at hg
  · rename_i d e
    obtain ⟨v, h1, h2⟩ := R.fz i d e
    exact ⟨v, h1, hg ρ FH H σ' v R (Sub.refl _) h2⟩
  · rename_i ds e
    obtain ⟨p, vs, h1, h2, h3, h4, h5, h6⟩ := R.ow i ds e
    have R2 : Rep Y ρ FH H σ' (σ.set i none) g := R.forget (by rw [List.length_set]; exact R.len) fun j x h => by
      rcases getSet h with ⟨_, z, _⟩ | ⟨_, z⟩
      · cases z
      · exact ⟨z, rfl⟩
    refine ⟨_, h1, hg ρ FH H σ' _ R2 (Sub.refl _) ⟨p, vs, rfl, h2, h3, h4, h5, h6, fun j es hj hr => ?_, ?_⟩⟩
    · rcases getSet hj with ⟨_, z, _⟩ | ⟨w, z⟩
      · cases z
      · exact w (R.dis i j ds es p e z h1 hr)
    · cases q : Y.pd p with
      | none => rfl
      | some ws => exact absurd h1 ((R.pend p ws q).2.2.1 i ds e)
  · exact hg.elim
theorem snd_sRetN : SndS Y L2.tRetN sRetN := fun ρ FH H σ' σ g Dn R hg => hg ρ FH H σ' _ R (Sub.refl _) .non
theorem Rep.pdNew (R : Rep Y ρ FH H σ' σ g) {p : Addr} {acc : List V} (hn : H p = none) : Rep (Y.under p acc) ρ FH (upd H p (.lst acc)) σ' σ g := by
  have R2 := R.newL (o := .lst acc) hn
  refine R2.toUnder (R.sub.free hn) upd_same (R.old hn) (R.cellNe hn) fun i es h e => ?_
  exact R.slotNe hn i es h e
theorem snd_sRetDeal (h1 : SndE Y (RelD Y) ta f1) (h2 : SndE Y (RelD Y) tb f2) (h3 : ∀ p acc, SndE (Y.under p acc) (RelD (Y.under p acc)) tc f3) :
    SndS Y (L2.tRet (L2.tLst (tCons ta (tCons (L2.tLst (tCons tb tNil)) (tCons tc tNil))))) (sRetDeal f1 f2 f3) := by
  intro ρ FH H σ' σ g Dn R hg
  refine h1 ρ FH H σ' σ g _ R (hg.bind.mono fun r σ2 g2 q vr FH2 H2 R2 S2 E2 rel2 => ?_)
  refine h2 ρ FH2 H2 σ' σ2 g2 _ R2 (q.bind.mono fun a σ3 g3 q va FH3 H3 R3 S3 E3 rel3 => ?_)
  cases rel3 with
  | int i =>
    refine ⟨show 1 ≤ sizeLine by decide, fun c hc => ?_⟩
    have q0 := good_noX (Y := Y) q.bind c [.int i]
    have R4 := R3.pdNew (acc := [.int i]) hc
    refine h3 c [.int i] ρ FH3 (upd H3 c (.lst [.int i])) σ' σ3 g3 _ R4 (q0.mono fun t σ4 g4 q vt FH4 H4 R4 S4 E4 rel4 => ?_)
    refine ⟨show 3 ≤ sizeLine by decide, fun p hp => ?_⟩
    obtain ⟨b1, b2, b3, b4, b5⟩ := R4.underAt
    have R5 : Rep Y ρ FH4 (upd H4 p (.lst [vr, .ref c, vt])) σ' σ4 g4 := (R4.ofUnder (Y := Y) (R3.pdNe hc)).newL hp
    have pc : p ≠ c := fun e => by
      rw [e, b1] at hp
      cases hp
    have R4' := R4.ofUnder (Y := Y) (R3.pdNe hc)
    refine q ρ FH4 _ σ' _ R5 ((S2.trans S3).trans S4) ⟨p, c, vr, vt, rfl, R4.sub.free hp, b2, upd_same, by rw [upd_ne pc.symm]; exact b1, Dq.up (S3.trans S4) _ rel2, rel4, R4.old hp, b5, pc, fun j es hj => ⟨R4'.slotNe hp j es hj, b3 j es hj⟩, fun dl c' hr => ⟨R4'.cellNe hp dl c' hr, b4 dl c' hr⟩, R4'.pdNe hp, R3.pdNe hc⟩
  | non => exact q.elim
  | bl _ => exact q.elim
  | str _ => exact q.elim
  | lst _ _ => exact q.elim
  | tup _ _ => exact q.elim
/-- the slot at i holds the deck just made -/
theorem Rep.setDeal (R : Rep Y ρ FH H σ' σ g) (i : Nat) {v : V} {r : D} {a : Int} {t : D} (h0 : Y.ρ0 = none) (hρ : ∀ (j : Nat), σ[j]? ≠ some (some .deal)) (n : NdOk Y ρ FH H σ' σ v r a t) : ∃ dl c FH2, Rep Y (some (dl, c)) FH2 H (σ'.set i (some v)) (σ.set i (some .deal)) ⟨r, t, a⟩ ∧ Sub FH FH2 := by
  obtain ⟨p, c, vr, vt, rfl, h1, h2, h3, h4, h5, h6, h7, h8, h9, h10, h11, h12, h13⟩ := n
  have up : Sub FH (upd FH p (.lst [vr, .ref c, vt])) := Sub.new h1
  have hl := R.len
  have old : ∀ {j : Nat} {es : List D}, (σ.set i (some SV.deal))[j]? = some (some (.ow es)) → i ≠ j ∧ σ[j]? = some (some (.ow es)) := fun {j es} h => by
    rcases getSet h with ⟨_, e, _⟩ | q
    · cases e
    · exact q
  refine ⟨p, c, _, ⟨R.sub.to h3, by rw [List.length_set, List.length_set]; exact hl, fun j e h => ?_, fun j es h => ?_, fun j k es fs q a1 a2 a3 a4 => ?_, fun j r a t h => ?_, fun j h => ?_, fun dl c' h => ?_, ⟨R.ext.fsub.trans up, R.ext.hsub, fun b u h => ?_, R.ext.there⟩, fun x h => ?_, fun dl c' h => ?_, fun q ws h => ?_⟩, up⟩
  · rcases getSet h with ⟨_, z, _⟩ | ⟨z, q⟩
    · cases z
    · rw [List.getElem?_set_ne z]
      obtain ⟨v, b1, b2⟩ := R.fz j e q
      exact ⟨v, b1, Dq.up up e b2⟩
  · obtain ⟨z, q⟩ := old h
    rw [List.getElem?_set_ne z]
    obtain ⟨x, ws, b1, b2, b3, b4, b5, b6⟩ := R.ow j es q
    have xp : x ≠ p := fun e => (h10 j es q).1 (by rw [b1, e])
    have xc : x ≠ c := fun e => (h10 j es q).2 (by rw [b1, e])
    exact ⟨x, ws, b1, by rw [upd_ne xp]; exact b2, b3, DqAll.up up es b4, b5, fun dl c' hr => by cases hr; exact xc⟩
  · obtain ⟨z1, q1⟩ := old a1
    obtain ⟨z2, q2⟩ := old a2
    rw [List.getElem?_set_ne z1] at a3
    rw [List.getElem?_set_ne z2] at a4
    exact R.dis j k es fs q q1 q2 a3 a4
  · rcases getSet h with ⟨_, z, _⟩ | ⟨_, q⟩
    · cases z
    · exact R.nond j r a t q
  · rcases getSet h with ⟨rfl, _, w⟩ | ⟨_, q⟩
    · exact ⟨p, c, rfl, List.getElem?_set_self (by rw [hl]; exact w)⟩
    · exact absurd q (hρ j)
  · cases h
    exact ⟨vr, vt, upd_same, Dq.up up _ h5, Dq.up up _ h6, by rw [upd_ne h9.symm]; exact h2, h4⟩
  · by_cases z : b = p
    · subst z
      exact .inr h7
    · rw [upd_ne z] at h
      exact R.ext.new b u h
  · rw [h0] at h
    cases h
  · cases h
    exact .inr h8
  · obtain ⟨b1, b2, b3, b4⟩ := R.pend q ws h
    have qp : q ≠ p := fun e => by
      rw [e, h12] at h
      cases h
    have qc : q ≠ c := fun e => by
      rw [e, h13] at h
      cases h
    refine ⟨b1, by rw [upd_ne qp]; exact b2, fun j es hj => ?_, fun dl c' hr => by cases hr; exact qc, b4.2⟩
    obtain ⟨z, w⟩ := old hj
    rw [List.getElem?_set_ne z]
    exact b3 j es w
theorem noDeal_get : ∀ {σ : Sl}, noDeal σ = true → ∀ j : Nat, σ[j]? ≠ some (some .deal)
  | [], _, j, h => by simp at h
  | none :: r, h, 0, q => by simp at q
  | none :: r, h, j + 1, q => noDeal_get (σ := r) (by simpa [noDeal] using h) j (by simpa using q)
  | some .deal :: r, h, _, _ => by simp [noDeal] at h
  | some (.fz d) :: r, h, 0, q => by simp at q
  | some (.fz d) :: r, h, j + 1, q => noDeal_get (σ := r) (by simpa [noDeal] using h) j (by simpa using q)
  | some (.ow d) :: r, h, 0, q => by simp at q
  | some (.ow d) :: r, h, j + 1, q => noDeal_get (σ := r) (by simpa [noDeal] using h) j (by simpa using q)
  | some (.nd _ _ _) :: r, h, 0, q => by simp at q
  | some (.nd _ _ _) :: r, h, j + 1, q => noDeal_get (σ := r) (by simpa [noDeal] using h) j (by simpa using q)
theorem snd_sAsg {i : Nat} (h : SndE Y (RelO Y) te fo) : SndS Y (L2.tAsg te (L2.gName i)) (sAsg i fo) := by
  intro ρ FH H σ' σ g Dn R hg
  refine h ρ FH H σ' σ g _ R (hg.bind.mono fun sv σ2 g2 q v FH2 H2 R2 S E rel => ?_)
  cases sv with
  | fz d => exact q ρ FH2 H2 _ (R2.setFz i rel) S
  | ow ds =>
    obtain ⟨p, vs, rfl, F⟩ := rel
    exact q ρ FH2 H2 _ (R2.setOw i F) S
  | nd _ _ _ => exact q.elim
  | deal => exact q.elim
theorem snd_sAsgN {i : Nat} (h0 : Y.ρ0 = none) (h : SndE Y (RelO Y) te fo) : SndS Y (L2.tAsg te (L2.gName i)) (sAsgN i fo) := by
  intro ρ FH H σ' σ g Dn R hg
  refine h ρ FH H σ' σ g _ R (hg.bind.mono fun sv σ2 g2 q v FH2 H2 R2 S E rel => ?_)
  cases sv with
  | fz d => exact q ρ FH2 H2 _ (R2.setFz i rel) S
  | ow ds =>
    obtain ⟨p, vs, rfl, F⟩ := rel
    exact q ρ FH2 H2 _ (R2.setOw i F) S
  | nd r a t =>
    have q : Good Y (if noDeal σ2 = true then _ else _) _ := q
    split at q
    · rename_i nd
      obtain ⟨dl, c, FH3, R3, S3⟩ := R2.setDeal i h0 (noDeal_get nd) rel
      exact q _ FH3 H2 _ R3 (S.trans S3)
    · exact q.elim
  | deal => exact q.elim
theorem snd_sUnp {vs : List Nat} {gt : TG} {tg : TgF} (h : SndE Y (RelD Y) te f) (hg : SndG Y vs gt tg) : SndS Y (L2.tAsg te gt) (sUnp tg f) := by
  intro ρ FH H σ' σ g Dn R hg'
  refine h ρ FH H σ' σ g _ R (hg'.bind.mono fun d σ2 g2 q v FH2 H2 R2 S E rel => ?_)
  exact hg ρ FH2 H2 σ' σ2 g2 v d _ R2 rel (q.bind.mono fun _ σ3 g3 q σ3' FH3 H3 R3 S3 _ _ => q ρ FH3 H3 σ3' R3 (S.trans S3))
theorem snd_sPar {i j : Nat} (h1 : SndE Y (RelD Y) ta f1) (h2 : SndE Y (RelD Y) tb f2) : SndS Y (L2.tPar i j (tCons ta (tCons tb tNil))) (sPar i j f1 f2) := by
  intro ρ FH H σ' σ g Dn R hg
  refine h1 ρ FH H σ' σ g _ R (hg.bind.mono fun a σ2 g2 q x FH2 H2 R2 S2 E2 rel2 => ?_)
  refine h2 ρ FH2 H2 σ' σ2 g2 _ R2 (q.bind.mono fun b σ3 g3 q y FH3 H3 R3 S3 E3 rel3 => ?_)
  exact ⟨x, y, rfl, q ρ FH3 H3 _ ((R3.setFz i (Dq.up S3 a rel2)).setFz j rel3) (S2.trans S3)⟩
theorem snd_sAug {i : Nat} {op : D → D → Option SV} {r : R2} (h : SndE Y (RelP Y) te f) (ho : Op2 Y r op) : SndS Y (L2.tAug i te r) (sAug op i f) := by
  intro ρ FH H σ' σ g Dn R hg
  have hg : Good Y (match σ[i]? with
    | some (some (.fz d)) => (f σ g).bind fun b σ g => match op d b with
      | some (.fz r) => .ok .nx (σ.set i (some (.fz r))) g
      | _ => .stuck
    | _ => .stuck) (Aft Y FH Dn) := hg
  split at hg
  · rename_i d e
    obtain ⟨x, h1, h2⟩ := R.fz i d e
    refine ⟨x, h1, h ρ FH H σ' σ g _ R (hg.bind.mono fun b σ2 g2 q y FH2 H2 R2 S E rel => ?_)⟩
    split at q
    · rename_i r' er
      refine ho ρ FH2 H2 σ' σ2 g2 x y d b _ _ R2 (.inl (Dq.up S d h2)) rel er fun v2 FH3 H3 n => ?_
      obtain ⟨R3, S3⟩ := R2.res n
      exact q ρ FH3 H3 _ (R3.setFz i n.1) (S.trans S3)
    · exact q.elim
  · exact hg.elim
theorem setAt_dq {K : PySem.W.Frag} {vs : List V} {ds es : List D} {i : Int} {v : V} {d : D} (a : DqAll K FH vs ds) (hd : Dq K FH v d) (h : setAt ds i d = some es) : ∃ j, L2.ixN vs.length i = some j ∧ DqAll K FH (vs.set j v) es := by
  unfold setAt at h
  rw [Option.map_eq_some_iff] at h
  obtain ⟨j, h1, rfl⟩ := h
  exact ⟨j, by rw [a.len]; exact h1, a.set hd j⟩
/-- the frame's own list at slot i changes -/
theorem Rep.change (R : Rep Y ρ FH H σ' σ g) {i : Nat} {ds es : List D} {p : Addr} {ws : List V} (hi : σ[i]? = some (some (.ow ds))) (hp : σ'[i]? = some (some (.ref p))) (a : DqAll Y.K FH ws es) : Rep Y ρ FH (upd H p (.lst ws)) σ' (σ.set i (some (.ow es))) g := by
  obtain ⟨p', vs, h1, h2, h3, h4, h5, h6⟩ := R.ow i ds hi
  rw [hp] at h1
  cases h1
  have hlt : i < σ.length := (List.getElem?_eq_some_iff.mp hi).1
  have old : ∀ {j : Nat} {x : SV}, i ≠ j → (σ.set i (some (.ow es)))[j]? = some (some x) → σ[j]? = some (some x) := fun {j x} z h => by
    rw [List.getElem?_set_ne z] at h
    exact h
  refine ⟨R.sub.upd2 h2, by rw [List.length_set]; exact R.len, fun j e h => ?_, fun j fs h => ?_, fun j k fs gs q a1 a2 a3 a4 => ?_, fun j r b t h => ?_, fun j h => ?_, fun dl c h => ?_, ⟨R.ext.fsub, fun b u h hc => ?_, R.ext.new, fun b u h => ?_⟩, R.rho, R.cf, fun q us h => ?_⟩
  · rcases getSet h with ⟨_, z, _⟩ | ⟨_, q⟩
    · cases z
    · exact R.fz j e q
  · rcases getSet h with ⟨rfl, z, _⟩ | ⟨z, q⟩
    · cases z
      exact ⟨p, ws, hp, h2, upd_same, a, h5, h6⟩
    · obtain ⟨q', us, b1, b2, b3, b4, b5, b6⟩ := R.ow j fs q
      have w : q' ≠ p := fun e => z (R.dis i j ds fs p hi q hp (by rw [b1, e]))
      exact ⟨q', us, b1, b2, by rw [upd_ne w]; exact b3, b4, b5, b6⟩
  · by_cases z1 : i = j
    · by_cases z2 : i = k
      · rw [← z1, ← z2]
      · rw [← z1] at a3
        exact z1 ▸ (R.dis i k ds gs q hi (old z2 a2) a3 a4)
    · by_cases z2 : i = k
      · rw [← z2] at a4
        exact z2 ▸ (R.dis j i fs ds q (old z1 a1) hi a3 a4)
      · exact R.dis j k fs gs q (old z1 a1) (old z2 a2) a3 a4
  · rcases getSet h with ⟨_, z, _⟩ | ⟨_, q⟩
    · cases z
    · exact R.nond j r b t q
  · rcases getSet h with ⟨_, z, _⟩ | ⟨_, q⟩
    · cases z
    · exact R.dl j q
  · obtain ⟨vr, vt, b1, b2, b3, b4, b5⟩ := R.deck dl c h
    exact ⟨vr, vt, b1, b2, b3, b4, by rw [upd_ne (h6 dl c h).symm]; exact b5⟩
  · have z : b ≠ p := fun e => by
      rw [e, h5] at h
      cases h
    rw [upd_ne z]
    exact R.ext.hsub b u h hc
  · have z : b ≠ p := fun e => by
      rw [e, h5] at h
      cases h
    rw [upd_ne z]
    exact R.ext.there b u h
  · obtain ⟨b1, b2, b3, b4⟩ := R.pend q us h
    have z : q ≠ p := fun e => b3 i ds hi (by rw [hp, e])
    refine ⟨by rw [upd_ne z]; exact b1, b2, fun j fs hj => ?_, b4⟩
    rcases getSet hj with ⟨rfl, _, _⟩ | ⟨_, w⟩
    · exact b3 i ds hi
    · exact b3 j fs w
theorem isOw_some {o : Option (Option SV)} (h : isOw o = true) : ∃ ds, o = some (some (.ow ds)) := by
  unfold isOw at h
  split at h
  · exact ⟨_, rfl⟩
  · cases h
theorem snd_sSetIx {i : Nat} {tk : TE} {fk fe : Ev D} (he : SndE Y (RelD Y) te fe) (hk : SndE Y (RelP Y) tk fk) : SndS Y (L2.tAsg te (L2.gSub (tVar i) tk L2.rSetL)) (sSetIx i fk fe) := by
  intro ρ FH H σ' σ g Dn R hg
  refine he ρ FH H σ' σ g _ R (hg.bind.mono fun d σ2 g2 q v FH2 H2 R2 S2 E2 rel2 => ?_)
  split at q
  · rename_i ow
    obtain ⟨ds0, h0⟩ := isOw_some ow
    obtain ⟨p, vs, hp, _⟩ := R2.ow i ds0 h0
    refine ⟨_, hp, hk ρ FH2 H2 σ' σ2 g2 _ R2 (q.bind.mono fun k σ3 g3 q u FH3 H3 R3 S3 E3 rel3 => ?_)⟩
    split at q
    · rename_i ds k' e
      rw [rel3.int]
      split at q
      · rename_i es he'
        obtain ⟨p', ws, b1, b2, b3, b4, _⟩ := R3.ow i ds e
        rw [hp] at b1
        cases b1
        obtain ⟨j, hj, a'⟩ := setAt_dq b4 (Dq.up S3 d rel2) he'
        exact ⟨p, ws, k', j, rfl, rfl, b3, hj, q ρ FH3 _ σ' (R3.change e hp a') (S2.trans S3)⟩
      · exact q.elim
    · exact q.elim
  · exact q.elim
theorem snd_sApp {i : Nat} {fe : Ev D} (he : SndE Y (RelD Y) te fe) : SndS Y (L2.tDrop (L2.tBM Y.K "list" L2.rAppend (tVar i) (tCons te tNil))) (sApp i fe) := by
  intro ρ FH H σ' σ g Dn R hg
  have hg : Good Y (if isOw σ[i]? = true then _ else _) (Aft Y FH Dn) := hg
  split at hg
  · rename_i ow
    obtain ⟨ds0, h0⟩ := isOw_some ow
    obtain ⟨p, vs, hp, _, h3, _⟩ := R.ow i ds0 h0
    refine ⟨_, hp, .inl ⟨rfl, vs, .inl (.inl h3)⟩, he ρ FH H σ' σ g _ R (hg.bind.mono fun d σ2 g2 q v FH2 H2 R2 S2 E2 rel2 => ?_)⟩
    split at q
    · rename_i ds e
      split at q
      · rename_i hl
        obtain ⟨p', ws, b1, b2, b3, b4, _⟩ := R2.ow i ds e
        rw [hp] at b1
        cases b1
        exact ⟨p, ws, v, rfl, rfl, b3, by rw [b4.len, sl16]; exact hl, q ρ FH2 _ σ' (R2.change e hp (b4.app (.one rel2))) S2⟩
      · exact q.elim
    · exact q.elim
  · exact hg.elim
/-- deal[1][0] = e -/
theorem snd_sSetDeal {i : Nat} {fe : Ev D} (he : SndE Y (RelD Y) te fe) : SndS Y (L2.tAsg te (L2.gSub (tOp (L2.rIx Y.K) (tVar i) (tC (.int 1))) (tC (.int 0)) L2.rSetL)) (sSetDeal i fe) := by
  intro ρ FH H σ' σ g Dn R hg
  refine he ρ FH H σ' σ g _ R (hg.bind.mono fun d σ2 g2 q v FH2 H2 R2 S2 E2 rel2 => ?_)
  split at q
  · rename_i k e
    cases rel2
    obtain ⟨dl, c, h1, h2⟩ := R2.dl i e
    obtain ⟨vr, vt, q1, q2, q3, q4, q5⟩ := R2.deck dl c h1
    have hs : SqL Y.K H2 dl [vr, .ref c, vt] := .inl (.inl (R2.sub _ _ q1))
    refine ⟨_, h2, .inl ⟨dl, _, 1, .ref c, rfl, rfl, hs, L2.atI_nat (j := 1) rfl, c, [.int g2.at_], 0, 0, rfl, rfl, q5, rfl, q ρ FH2 _ σ' ?_ S2⟩⟩
    refine ⟨R2.sub.upd2 q4, R2.len, R2.fz, fun j es h => ?_, R2.dis, R2.nond, R2.dl, fun dl' c' h => ?_, ⟨R2.ext.fsub, fun b u h hc => ?_, R2.ext.new, fun b u h => ?_⟩, R2.rho, R2.cf, fun p us h => ?_⟩
    · obtain ⟨p, us, b1, b2, b3, b4, b5, b6⟩ := R2.ow j es h
      exact ⟨p, us, b1, b2, by rw [upd_ne (b6 dl c h1)]; exact b3, b4, b5, b6⟩
    · rw [h1] at h
      cases h
      exact ⟨vr, vt, q1, q2, q3, q4, upd_same⟩
    · have z : b ≠ c := fun w => by
        rcases R2.cf dl c h1 with x | x
        · exact hc dl c x w
        · rw [w, x] at h
          cases h
      rw [upd_ne z]
      exact R2.ext.hsub b u h hc
    · by_cases z : b = c
      · exact ⟨_, by rw [z]; exact upd_same⟩
      · rw [upd_ne z]
        exact R2.ext.there b u h
    · obtain ⟨b1, b2, b3, b4⟩ := R2.pend p us h
      exact ⟨by rw [upd_ne (b4.1 dl c h1)]; exact b1, b2, b3, b4⟩
  · exact q.elim
/-! ### if, for, while -/
theorem snd_sIf {tt : TT} {b : Ev Bool} (ht : SndT Y tt b) (h1 : SndS Y t1 s1) (h2 : SndS Y t2 s2) : SndS Y (L2.tIfS tt t1 t2) (sIf b s1 s2) := by
  intro ρ FH H σ' σ g Dn R hg
  refine ht ρ FH H σ' σ g _ R (Good.bind (o := b σ g) hg |>.mono fun p σ2 g2 q FH2 H2 R2 S E => ?_)
  cases p with
  | true =>
    rw [if_pos rfl] at q ⊢
    exact h1 ρ FH2 H2 σ' σ2 g2 Dn R2 (q.mono fun fl σ3 g3 q => q.up S)
  | false =>
    rw [if_neg Bool.false_ne_true] at q ⊢
    exact h2 ρ FH2 H2 σ' σ2 g2 Dn R2 (q.mono fun fl σ3 g3 q => q.up S)
theorem mask_len : ∀ (a b : Sl), (mask a b).length = b.length
  | [], b => by cases b <;> rfl
  | none :: r0, [] => rfl
  | none :: r0, _ :: r => by
    show (none :: mask r0 r).length = _
    rw [List.length_cons, List.length_cons, mask_len r0 r]
  | some _ :: r0, [] => rfl
  | some _ :: r0, o :: r => by
    show (o :: mask r0 r).length = _
    rw [List.length_cons, List.length_cons, mask_len r0 r]
theorem mask_get : ∀ (a b : Sl) (i : Nat) (x : SV), (mask a b)[i]? = some (some x) → b[i]? = some (some x)
  | [], b, _, _, h => by cases b <;> exact h
  | none :: r0, [], _, _, h => h
  | none :: r0, _ :: r, 0, x, h => by
    have h : some none = some (some x) := h
    cases h
  | none :: r0, _ :: r, i + 1, x, h => mask_get r0 r i x h
  | some _ :: r0, [], _, _, h => h
  | some _ :: r0, o :: r, 0, x, h => h
  | some _ :: r0, o :: r, i + 1, x, h => mask_get r0 r i x h
theorem Rep.masked (R : Rep Y ρ FH H σ' σ g) (a : Sl) : Rep Y ρ FH H σ' (mask a σ) g := R.forget (by rw [mask_len]; exact R.len) fun i x h => ⟨mask_get a σ i x h, rfl⟩
theorem snd_sFor {it : Ev (List D)} {vs : List Nat} {tg : TgF} {b : Ev Fl} {wi : TI} {gt : TG} {tb : TS} (hi : SndI Y wi it) (hg' : SndG Y vs gt tg) (hb : SndS Y tb b) : SndS Y (L2.tFor wi gt tb) (sFor it tg b) := by
  intro ρ FH H σ' σ g Dn R hg
  refine hi ρ FH H σ' σ g _ R (hg.bind.mono fun xs σ1 g1 q J FH1 H1 R1 S1 E1 io => ?_)
  have q := q.mono (P' := Aft Y FH1 Dn) fun fl σ3 g3 q => q.up S1
  refine ⟨fun i m σi' Hi => ∃ (ρi : Rho) (σi : Sl) (gi : G) (FHi : Hp), m = xs.length - i ∧ i ≤ xs.length ∧ Rep Y ρi FHi Hi σi' σi gi ∧ Sub FH1 FHi ∧ Good Y (forL tg b (xs.drop i) σi gi) (Aft Y FH1 Dn), ⟨_, ρ, σ1, g1, FH1, rfl, Nat.zero_le _, R1, Sub.refl _, q⟩, ?_⟩
  rintro i m σi' Hi ⟨ρi, σi, gi, FHi, rfl, hle, Ri, Si, Gi⟩
  have io' := io i ρi FHi Hi _ σi gi Ri Si
  by_cases hlt : i < xs.length
  · obtain ⟨go, yl⟩ := io'.1 xs[i] (List.getElem?_eq_getElem hlt)
    refine .inr ⟨go, fun σj' Hj => ∃ (ρj : Rho) (σj : Sl) (gj : G) (FHj : Hp), Rep Y ρj FHj Hj σj' σj gj ∧ Sub FH1 FHj ∧ Good Y (forL tg b (xs.drop (i + 1)) σj gj) (Aft Y FH1 Dn),
      fun σj' Hj ⟨ρj, σj, gj, FHj, w1, w2, w3⟩ => ⟨xs.length - (i + 1), by omega, ρj, σj, gj, FHj, rfl, hlt, w1, w2, w3⟩, fun x H' y => ?_⟩
    obtain ⟨FH', nr⟩ := yl x H' y
    obtain ⟨R', S'⟩ := Ri.res nr
    rw [List.drop_eq_getElem_cons hlt] at Gi
    have Gi2 : Good Y ((tg xs[i] σi gi).bind fun _ σ1 g1 => (b σ1 g1).bind fun f σ2 g2 => match f with
        | .nx => forL tg b (xs.drop (i + 1)) (mask σi σ2) g2
        | .ct => forL tg b (xs.drop (i + 1)) (mask σi σ2) g2
        | .bk => .ok .nx (mask σi σ2) g2
        | .rt r => .ok (.rt r) σ2 g2) (Aft Y FH1 Dn) := Gi
    refine hg' ρi FH' H' σi' σi gi x xs[i] _ R' nr.1 (Gi2.bind.mono fun _ σ2 g2 q2 σ2' FH2 H2 R2 S2 _ _ => ?_)
    have all := (Si.trans S').trans S2
    refine hb ρi FH2 H2 σ2' σ2 g2 _ R2 (q2.bind.mono fun fl σ3 g3 q3 => ?_)
    cases fl with
    | nx => exact fun ρ3 FH3 H3 σ3' R3 S3 => ⟨ρ3, _, g3, FH3, R3.masked σi, all.trans S3, q3⟩
    | ct => exact fun ρ3 FH3 H3 σ3' R3 S3 => ⟨ρ3, _, g3, FH3, R3.masked σi, all.trans S3, q3⟩
    | bk => exact fun ρ3 FH3 H3 σ3' R3 S3 => q3 ρ3 FH3 H3 σ3' (R3.masked σi) (all.trans S3)
    | rt r => exact fun ρ3 FH3 H3 σ3' v R3 S3 rel => q3 ρ3 FH3 H3 σ3' v R3 (all.trans S3) rel
  · have e : i = xs.length := by omega
    subst e
    rw [List.drop_length] at Gi
    have Gi : Aft Y FH1 Dn .nx σi gi := Gi
    exact .inl ⟨io'.2 (Nat.le_refl _), Gi ρi FHi Hi σi' Ri Si⟩
theorem snd_sWhile {tt : TT} {t : Ev Bool} {b : Ev Fl} {tb : TS} {n : Nat} (ht : SndT Y tt t) (hb : SndS Y tb b) : SndS Y (L2.tWhile tt tb) (whileL t b n) := by
  intro ρ FH H σ' σ g Dn R hg
  refine ⟨fun m σi' Hi => ∃ (ρi : Rho) (σi : Sl) (gi : G) (FHi : Hp), Rep Y ρi FHi Hi σi' σi gi ∧ Sub FH FHi ∧ Good Y (whileL t b m σi gi) (Aft Y FH Dn), ⟨n, ρ, σ, g, FH, R, Sub.refl _, hg⟩, ?_⟩
  rintro m σi' Hi ⟨ρi, σi, gi, FHi, Ri, Si, Gi⟩
  cases m with
  | zero => exact Gi.elim
  | succ m =>
    have Gi2 : Good Y ((t σi gi).bind fun p σ1 g1 => if p = true then (b σ1 g1).bind fun f σ2 g2 => match f with
        | .nx => whileL t b m (mask σi σ2) g2
        | .ct => whileL t b m (mask σi σ2) g2
        | .bk => .ok .nx (mask σi σ2) g2
        | .rt r => .ok (.rt r) σ2 g2
      else .ok .nx σ1 g1) (Aft Y FH Dn) := Gi
    refine ht ρi FHi Hi σi' σi gi _ Ri (Gi2.bind.mono fun p σ2 g2 q FH2 H2 R2 S2 E2 => ?_)
    cases p with
    | true =>
      rw [if_pos rfl] at q ⊢
      refine ⟨fun σj' Hj => ∃ (ρj : Rho) (σj : Sl) (gj : G) (FHj : Hp), Rep Y ρj FHj Hj σj' σj gj ∧ Sub FH FHj ∧ Good Y (whileL t b m σj gj) (Aft Y FH Dn), fun σj' Hj w => ⟨m, Nat.lt_succ_self m, w⟩, ?_⟩
      have all := Si.trans S2
      refine hb ρi FH2 H2 σi' σ2 g2 _ R2 (q.bind.mono fun fl σ3 g3 q3 => ?_)
      cases fl with
      | nx => exact fun ρ3 FH3 H3 σ3' R3 S3 => ⟨ρ3, _, g3, FH3, R3.masked σi, all.trans S3, q3⟩
      | ct => exact fun ρ3 FH3 H3 σ3' R3 S3 => ⟨ρ3, _, g3, FH3, R3.masked σi, all.trans S3, q3⟩
      | bk => exact fun ρ3 FH3 H3 σ3' R3 S3 => q3 ρ3 FH3 H3 σ3' (R3.masked σi) (all.trans S3)
      | rt r => exact fun ρ3 FH3 H3 σ3' v R3 S3 rel => q3 ρ3 FH3 H3 σ3' v R3 (all.trans S3) rel
    | false =>
      rw [if_neg Bool.false_ne_true] at q ⊢
      exact q ρi FH2 H2 σi' R2 (Si.trans S2)
end
end
end FD
set_option maxHeartbeats 4000000
/-! FD11: from a text to its combinators: expressions. -/
namespace FD
noncomputable section
open PySem
open L2 (Hp HO V upd upd_same upd_ne ne_of_none Rd SqL SqT Vals RelV VK TE TT TA TS TG TGs St XK Cx PE PT PW PA PS PSs PG PGs PI Inv OpR UnR CallR R2 rI0 rI tOp tUn tVar tC tCB tCons tNil SlR IxR MtR It TI XK Sp wipe tLc Ends Gl Vis Loc FnOk Room Binds)

structure Ctx where
  /-- the slots' names -/
  N : List Str
  /-- the scope that runs -/
  sc : Scope
  /-- names that may be stored -/
  sto : List Str
  /-- defs: place, number of arguments -/
  fns : List (Str × Nat × Nat)
  /-- constants -/
  cs : List (Str × D)
  law : Bool
  /-- it hands back the deck -/
  mkd : Bool

def ixOf (x : Str) : List Str → Option Nat
  | [] => none
  | y :: r => if x = y then some 0 else (ixOf x r).map (· + 1)
theorem ixOf_get {x : Str} : ∀ {l : List Str} {i : Nat}, ixOf x l = some i → l[i]? = some x
  | [], i, h => by simp [ixOf] at h
  | y :: r, i, h => by
    unfold ixOf at h
    split at h
    · rename_i e
      cases h
      rw [e]
      rfl
    · rw [Option.map_eq_some_iff] at h
      obtain ⟨j, h1, rfl⟩ := h
      rw [List.getElem?_cons_succ]
      exact ixOf_get h1
/-- the slot of a name that is seen -/
def Ctx.slot (c : Ctx) (x : Str) : Option Nat := match c.sc.names.lookup x with
  | some .local => ixOf x c.N
  | some .cell => ixOf x c.N
  | some .free => ixOf x c.N
  | _ => none
def Ctx.isGl (c : Ctx) (x : Str) : Bool := match c.sc.names.lookup x with
  | some .globalImplicit => true
  | _ => false
/-- names of the interpreter's that no text may bind -/
def blts : List Str := ["len", "abs", "int", "str", "sum", "tuple", "list", "min", "max", "sorted", "isinstance", "range", "enumerate", "zip", "bool"]
def okName (x : Str) : Bool := x != ("__debug__" : Str) && x != ("__classdict__" : Str) && x != ("__name__" : Str)

def bop : Operator → Option (D → D → Option SV)
  | .Add => some pyAdd
  | .Sub => some pySub
  | .Mult => some pyMul
  | .FloorDiv => some pyFloorDiv
  | .Mod => some pyMod
  | .Pow => some pyPow
  | _ => none
def cop : CmpOp → Option (D → D → Option Bool)
  | .Eq => some pyEq
  | .NotEq => some pyNe
  | .Lt => some pyLt
  | .LtE => some pyLe
  | .Gt => some pyGt
  | .GtE => some pyGe
  | .Is => some pyIs
  | .IsNot => some pyIsNot
  | .In => some pyIn
  | .NotIn => some pyNotIn
/-- built-in functions of one argument -/
def f1 (x : Str) : Option (D → Option SV) :=
  if x = "len" then some pyLen else if x = "abs" then some pyAbs else if x = "int" then some pyInt else if x = "str" then some pyStr else if x = "sum" then some pySum
  else if x = "tuple" then some pyTuple else if x = "list" then some pyList else none
def f2 (x : Str) : Option (D → D → Option SV) := if x = "min" then some pyMin2 else if x = "max" then some pyMax2 else none
def btOf (x : Str) : Option BT := if x = "int" then some .int else if x = "bool" then some .bool else if x = "str" then some .str else if x = "list" then some .list else if x = "tuple" then some .tuple else none
@[simp] def boolOf : D → Option Bool
  | .bool b => some b
  | _ => none
@[simp] def cOfB (f : Ev D) : Ev Bool := fun σ g => (f σ g).bind fun d => liftO (boolOf d)

/-- xs.index(x) -/
@[simp] def cIxL (f1 f2 : Ev D) : Ev SV := fun σ g => (f1 σ g).bind fun a σ g => match a with
  | .list ds => (f2 σ g).bind fun b => liftO (pyIndex (.list ds) b)
  | _ => .stuck
/-- .. of a constant tuple -/
@[simp] def cIxK (d : D) (f : Ev D) : Ev SV := fun σ g => match d with
  | .tuple ds => (f σ g).bind fun b => liftO (pyIndexK (.tuple ds) b)
  | _ => .stuck
structure Cmp where
  O : Ctx → Expr → Option (Ev SV)
  B : Ctx → Expr → Option (Ev Bool)
  T : Ctx → Expr → Option (Ev Bool)
namespace Cmp
variable (C : Cmp)
def Dd (c : Ctx) (e : Expr) : Option (Ev D) := (C.O c e).map cD
def P (c : Ctx) (e : Expr) : Option (Ev D) := match e with
  | .Name x _ => match c.slot x with
    | some i => if okName x then some (cVP i) else none
    | none => C.Dd c e
  | e => C.Dd c e
def Ds (c : Ctx) : List Expr → Option (Ev (List D))
  | [] => some cNil
  | e :: es => (C.Dd c e).bind fun f => (Ds c es).map fun r => cCons f r
def As (c : Ctx) : List Expr → Option (Ev (List SV))
  | [] => some cANil
  | e :: es => (C.O c e).bind fun f => (As c es).map fun r => cACons f r
def Bd (c : Ctx) : Option Expr → Option (Ev (Option Int))
  | none => some cNoB
  | some e => (C.P c e).map cBd
/-- and, or of values that are bools -/
def Bs (c : Ctx) (op : BoolOp) : List Expr → Option (Ev Bool)
  | [] => none
  | [e] => C.B c e
  | e :: es => (C.B c e).bind fun f => (Bs c op es).map fun r => match op with
    | .And => cAnd f r
    | .Or => cOr f r
def Ts (c : Ctx) (op : BoolOp) : List Expr → Option (Ev Bool)
  | [] => none
  | [e] => C.T c e
  | e :: es => (C.T c e).bind fun f => (Ts c op es).map fun r => match op with
    | .And => cAnd f r
    | .Or => cOr f r
/-- what is walked -/
def I (c : Ctx) (tg iter : Expr) : Option (Ev (List D)) := match tg, iter with
  | _, .Call (.Name x _) [a] [] _ =>
    if x = "range" then (if c.isGl x then (C.P c a).map iR1 else none)
    else if x = "enumerate" then (match tg with
      | .Tuple _ _ _ => if c.isGl x then (C.Dd c a).map iEnum else none
      | _ => none)
    else (C.Dd c iter).map iSeq
  | _, .Call (.Name x _) [a, b] [] _ =>
    if x = "range" then (if c.isGl x then (C.P c a).bind fun f => (C.P c b).map fun h => iR2 f h else none)
    else if x = "zip" then (match tg with
      | .Tuple _ _ _ => if c.isGl x then (C.Dd c a).bind fun f => (C.Dd c b).map fun h => iZip f h else none
      | _ => none)
    else (C.Dd c iter).map iSeq
  | _, e => (C.Dd c e).map iSeq
end Cmp
/-- targets whose slots are among vs -/
def tgL (f : Expr → Option TgF) : List Expr → Option (List D → Ev Unit)
  | [] => some gN
  | e :: es => (f e).bind fun t => (tgL f es).map fun r => gC t r
def tgOf (c : Ctx) (vs : List Nat) : Nat → Expr → Option TgF
  | 0, _ => none
  | n + 1, e => match e with
    | .Name x _ => if c.sto.contains x then (match ixOf x c.N with
      | some i => if vs.contains i then some (gNm i) else none
      | none => none) else none
    | .Tuple es _ _ => (tgL (tgOf c vs n) es).map (gTp es.length)
    | _ => none
/-- a comprehension's own names with their slots -/
def ownOf (N : List Str) (scope : Scope) : List (Str × Nat) := scope.names.filterMap fun (n, k) => match k with
  | .local => (ixOf n N).map fun i => (n, i)
  | .cell => (ixOf n N).map fun i => (n, i)
  | _ => none
def Ctx.blk (c : Ctx) (scope : Scope) : Ctx := { c with sc := L2.relS scope c.sc, sto := (ownOf c.N scope).map (·.1) }
def isCon (e : Expr) (i : Int) : Bool := match e with
  | .Constant (.int j) _ _ => i == j
  | _ => false

section
variable (ct : CT)
def stepO (C : Cmp) (c : Ctx) (e : Expr) : Option (Ev SV) := match e with
  | .Constant (.int i) _ _ => some (cK (.int i))
  | .Constant (.bool b) _ _ => some (cK (.bool b))
  | .Constant .none _ _ => some (cK .none)
  | .Constant (.str x) _ _ => some (cK (.str x))
  | .Name x _ => match c.slot x with
    | some i => if okName x then some (cVE i) else none
    | none => if c.isGl x && okName x then (c.cs.lookup x).map cK else none
  | .BinOp a op b _ => (bop op).bind fun o => (C.P c a).bind fun f => (C.P c b).map fun h => c2 o f h
  | .UnaryOp .USub a _ => (C.P c a).map fun f => c1 pyNeg f
  | .UnaryOp .Not a p => (C.B c (.UnaryOp .Not a p)).map cB
  | .BoolOp op es p => (C.B c (.BoolOp op es p)).map cB
  | .Compare a ops es p => (C.B c (.Compare a ops es p)).map cB
  | .IfExp t a b _ => (C.T c t).bind fun ft => (C.O c a).bind fun fa => (C.O c b).map fun fb => cIte ft fa fb
  | .Tuple es _ _ => (C.Ds c es).map cTup
  | .List es _ => (C.Ds c es).map cLst
  | .Subscript a (.Slice lo hi none _) _ => (C.P c a).bind fun f => (C.Bd c lo).bind fun l => (C.Bd c hi).map fun h => cSlice f l h
  | .Subscript a b _ =>
    match a with
    | .Name x _ => (match c.slot x with
      | some i => if okName x then (C.P c b).map fun h => cVIx i h else none
      | none => (C.P c a).bind fun f => (C.P c b).map fun h => c2 pyIx f h)
    | .Subscript (.Name x _) k _ => (match c.slot x with
      | some i => if isCon k 1 && isCon b 0 && okName x then some (cV10 i) else (C.P c a).bind fun f => (C.P c b).map fun h => c2 pyIx f h
      | none => (C.P c a).bind fun f => (C.P c b).map fun h => c2 pyIx f h)
    | _ => (C.P c a).bind fun f => (C.P c b).map fun h => c2 pyIx f h
  | .Call (.Name x q) (a :: as) [] p =>
    if c.isGl x && okName x then
      (if x = "isinstance" then (C.B c (.Call (.Name x q) (a :: as) [] p)).map cB
      else match c.fns.lookup x with
        | some (i, n) => (C.As c (a :: as)).map fun r => cCall ct i r
        | none => match as with
          | [] => (f1 x).bind fun o => (C.P c a).map fun f => c1 o f
          | [b] => (f2 x).bind fun o => (C.P c a).bind fun f => (C.P c b).map fun h => c2 o f h
          | _ => none)
    else none
  | .Call (.Attribute (.Name x _) m ap) [a] [] cp =>
    if m = "index" && ap.endLine == cp.line && okName x then
      (match c.slot x with
      | some i => (C.P c a).map fun h => cIxL (cVP i) h
      | none => if c.isGl x then (match c.cs.lookup x with
        | some d => (C.P c a).map fun h => cIxK d h
        | none => none) else none)
    else none
  | .ListComp elt [⟨tg, iter, ifs, 0⟩] scope _ =>
    let own := ownOf c.N scope
    let vs := own.map (·.2)
    if L2.blkC c.N c.sc scope own then
      (C.I c tg iter).bind fun it => (tgOf (c.blk scope) vs 5 tg).bind fun t => (match ifs with
        | [] => some cYes
        | [b] => C.T (c.blk scope) b
        | _ => none).bind fun ft => (C.Dd (c.blk scope) elt).map fun f => cLc it vs t ft f
    else none
  | _ => none
def stepB (C : Cmp) (c : Ctx) (e : Expr) : Option (Ev Bool) := match e with
  | .Compare a [op] [b] _ => (cop op).bind fun o => (C.P c a).bind fun f => (C.P c b).map fun h => cCmp o f h
  | .Compare a [op, op'] [b, d] _ => (cop op).bind fun o => (cop op').bind fun o' => (C.P c a).bind fun f => (C.P c b).bind fun h => (C.P c d).map fun k => cChain o o' f h k
  | .BoolOp op es _ => C.Bs c op es
  | .UnaryOp .Not a _ => (C.B c a).map cNot
  | .Call (.Name x q) [a, .Name y r] [] p =>
    if x = "isinstance" then
      (if c.isGl x && c.isGl y then (btOf y).bind fun t => (C.P c a).map fun f => cIsI t f else none)
    else (C.Dd c (.Call (.Name x q) [a, .Name y r] [] p)).map cOfB
  | e => (C.Dd c e).map cOfB
def stepT (C : Cmp) (c : Ctx) (e : Expr) : Option (Ev Bool) := match e with
  | .BoolOp op es _ => C.Ts c op es
  | .UnaryOp .Not a _ => (C.T c a).map cNot
  | .Compare a [op] [b] p => stepB C c (.Compare a [op] [b] p)
  | .Compare a [op, op'] [b, d] p => stepB C c (.Compare a [op, op'] [b, d] p)
  | .Compare _ _ _ _ => none
  | .IfExp _ _ _ _ => none
  | .Call (.Name x q) [a, .Name y r] [] p => if x = "isinstance" then C.B c (.Call (.Name x q) [a, .Name y r] [] p) else (C.P c (.Call (.Name x q) [a, .Name y r] [] p)).map cTru
  | e => (C.P c e).map cTru
def stepC (C : Cmp) : Cmp := ⟨stepO ct C, stepB C, stepT C⟩
def cmp : Nat → Cmp
  | 0 => ⟨fun _ _ => none, fun _ _ => none, fun _ _ => none⟩
  | n + 1 => stepC ct (cmp n)
end
end
end FD
/-! FD12: a text's combinators say what its run does: expressions. -/
namespace FD
noncomputable section
open PySem
open L2 (Hp HO V upd upd_same upd_ne ne_of_none Rd SqL SqT Vals RelV VK TE TT TA TS TG TGs St XK Cx PE PT PW PA PS PSs PG PGs PI Inv OpR UnR CallR R2 rI0 rI tOp tUn tVar tC tCB tCons tNil SlR IxR MtR It TI XK Sp wipe tLc Ends Gl Vis Loc FnOk Room Binds CX0)

def XC0 : XCT := fun _ _ _ _ _ _ => False
structure Fix where
  prog : Program
  w : World
  K : PySem.W.Frag
  mg : Str → Option Value
  base : Heap
  A : Around
structure FixOk (B : Fix) (ct : CT) (fns : List (Str × Nat × Nat)) (cs : List (Str × D)) : Prop where
  un : B.A.units + 80 < cLine
  bs : ∀ x ∈ blts, B.mg x = none
  fns : ∀ x i n, fns.lookup x = some (i, n) → (∀ as g, ct i as g ≠ .stuck → as.length = n) ∧ ∃ (fa : Addr) (fd : FuncData) (k : Nat) (ps : List Str), B.mg x = some (.ref fa) ∧ PySem.W.keepIn B.K (.ref fa) = true ∧ Room k B.A ∧ Binds B.K fd ps [] ∧
    FnOk B.prog B.w B.K B.mg B.base CX0 k fa fd ps (spF B.K XC0 false n (ct i))
  cs : ∀ x d, cs.lookup x = some d → ∃ u v, B.mg x = some u ∧ RelV v u ∧ Dq B.K (fun _ => none) v d ∧ ∀ ds, d = .tuple ds → ∃ p o, v = .ref p ∧ B.K.lookup p = some o ∧ o.cls = .type "tuple" ∧ o.dict = none
structure XOk (B : Fix) (c : Ctx) (X : Cx) : Prop where
  eP : X.prog = B.prog
  eW : X.w = B.w
  eK : X.K = B.K
  eM : X.mg = B.mg
  eB : X.base = B.base
  eA : X.A = B.A
  hN : X.N = c.N
  nd : c.N.Nodup
  sc : X.env.scope = c.sc
  kind : c.sc.kind = .function
  sto : ∀ x, c.sto.contains x = true → Loc X.env.scope x ∧ (X.fn x = true ∨ X.env.scope.names.lookup x = some .local)
  calm : X.calm = true
  pass : PassesOwn (model X.prog X.w) X.A X.env X.xe
structure YOk (B : Fix) (Y : Yx) : Prop where
  K : Y.K = B.K
  ex : ∀ e σ g, ¬ Y.Ex e σ g
theorem YOk.under {B : Fix} {Y : Yx} (h : YOk B Y) (p : Addr) (acc : List V) : YOk B (Y.under p acc) := ⟨h.K, fun _ _ _ z => z⟩

/-! ### forms -/
def noStar : Expr → Bool
  | .Starred _ _ => false
  | .Slice _ _ _ _ => false
  | .Set _ _ _ => false
  | _ => true
theorem star_cons {e : Expr} {es : List Expr} {env : Env} (h : noStar e = true) : starEach (e :: es) env = (false, eval e env) :: starEach es env := by
  cases e <;> first | rfl | (simp [noStar] at h)
theorem noback {pos : Pos} {env : Env} : ∀ {es : List Expr}, (∀ e ∈ es, noStar e = true) → (backTo pos (starEach es env)).any (·.1) = false
  | [], _ => rfl
  | e :: es, h => by
    rw [star_cons (h e List.mem_cons_self)]
    show (false || (backTo pos (starEach es env)).any (·.1)) = false
    rw [noback fun x hx => h x (List.mem_cons_of_mem _ hx)]
    rfl
theorem plainIx {b : Expr} (h : noStar b = true) : L2.PlainIx b := by
  intro o i
  cases b <;> first | rfl | (simp [noStar] at h)
theorem noBehind {op : CmpOp} {b : Expr} (h : noStar b = true) : behindInMarks op b = false := by
  cases b <;> first | rfl | (simp [noStar] at h)
theorem noFold {e : Expr} {env : Env} (h : noStar e = true) : ∀ x, foldedSetIterable e env x = pure x := by
  intro x
  cases e <;> first | rfl | (simp [noStar] at h)

/-! ### what is shown of a level -/
section
variable {ct : CT} {C : Cmp}
def SO (ct : CT) (C : Cmp) : Prop := ∀ c e f, C.O c e = some f → noStar e = true ∧ ∀ B, FixOk B ct c.fns c.cs → ∃ te, (∀ X, XOk B c X → PE X e te) ∧ ∀ Y, YOk B Y → SndE Y (RelO Y) te f
def SB (ct : CT) (C : Cmp) : Prop := ∀ c e f, C.B c e = some f → noStar e = true ∧ ∀ B, FixOk B ct c.fns c.cs → ∃ te, (∀ X, XOk B c X → PE X e te) ∧ ∀ Y, YOk B Y → SndE Y (RelB Y) te f
def ST (ct : CT) (C : Cmp) : Prop := ∀ c e f, C.T c e = some f → noStar e = true ∧ ∀ B, FixOk B ct c.fns c.cs → ∃ tt, (∀ X, XOk B c X → PT X e tt) ∧ ∀ Y, YOk B Y → SndT Y tt f
/-- an expression's reading in mode R -/
def Sd {α : Type} (ct : CT) (R : Yx → RelT α) (c : Ctx) (e : Expr) (f : Ev α) : Prop := noStar e = true ∧ ∀ B, FixOk B ct c.fns c.cs → ∃ te, (∀ X, XOk B c X → PE X e te) ∧ ∀ Y, YOk B Y → SndE Y (R Y) te f
theorem map_some {α β : Type} {o : Option α} {k : α → β} {b : β} (h : o.map k = some b) : ∃ a, o = some a ∧ k a = b := by
  cases o with
  | none => cases h
  | some a => exact ⟨a, rfl, Option.some.inj h⟩
theorem bind_some {α β : Type} {o : Option α} {k : α → Option β} {b : β} (h : o.bind k = some b) : ∃ a, o = some a ∧ k a = some b := by
  cases o with
  | none => cases h
  | some a => exact ⟨a, rfl, h⟩
theorem sd_D (hO : SO ct C) {c : Ctx} {e : Expr} {f : Ev D} (h : C.Dd c e = some f) : Sd ct RelD c e f := by
  obtain ⟨g, h1, rfl⟩ := map_some h
  obtain ⟨n, q⟩ := hO c e g h1
  refine ⟨n, fun B hB => ?_⟩
  obtain ⟨te, a, b⟩ := q B hB
  exact ⟨te, a, fun Y hY => snd_cD (b Y hY)⟩
theorem slot_vis {c : Ctx} {x : Str} {i : Nat} (h : c.slot x = some i) : c.N[i]? = some x ∧ Vis c.sc x := by
  unfold Ctx.slot at h
  split at h
  · rename_i e; exact ⟨ixOf_get h, .inl e⟩
  · rename_i e; exact ⟨ixOf_get h, .inr (.inl e)⟩
  · rename_i e; exact ⟨ixOf_get h, .inr (.inr e)⟩
  · cases h
theorem okName_1 {x : Str} (h : okName x = true) : (x == ("__debug__" : Str)) = false ∧ (x == ("__classdict__" : Str)) = false ∧ x ≠ "__name__" := by
  unfold okName at h
  simp only [Bool.and_eq_true, bne_iff_ne, ne_eq] at h
  exact ⟨by simpa using h.1.1, by simpa using h.1.2, h.2⟩
theorem pe_slot {B : Fix} {c : Ctx} {X : Cx} {x : Str} {i : Nat} {pos : Pos} (hX : XOk B c X) (h : c.slot x = some i) (ok : okName x = true) : PE X (.Name x pos) (tVar i) := by
  obtain ⟨h1, h2⟩ := slot_vis h
  obtain ⟨o1, o2, _⟩ := okName_1 ok
  exact L2.pe_var (by rw [hX.hN]; exact h1) (by rw [hX.sc]; exact h2) o1 o2
theorem sd_P (hO : SO ct C) {c : Ctx} {e : Expr} {f : Ev D} (h : C.P c e = some f) : Sd ct RelP c e f := by
  have gen : ∀ {e : Expr} {f : Ev D}, C.Dd c e = some f → Sd ct RelP c e f := fun {e f} h => by
    obtain ⟨n, q⟩ := sd_D hO h
    refine ⟨n, fun B hB => ?_⟩
    obtain ⟨te, a, b⟩ := q B hB
    exact ⟨te, a, fun Y hY => snd_P (b Y hY)⟩
  unfold Cmp.P at h
  split at h
  · split at h
    · rename_i x pos _ i hi
      split at h
      · rename_i ok
        cases h
        exact ⟨rfl, fun B hB => ⟨tVar i, fun X hX => pe_slot hX hi ok, fun Y hY => snd_cVP⟩⟩
      · cases h
    · exact gen h
  · exact gen h
/-- arguments: no star, a reading of the row -/
theorem sd_Ds (hO : SO ct C) {c : Ctx} : ∀ {es : List Expr} {f : Ev (List D)}, C.Ds c es = some f → (∀ e ∈ es, noStar e = true) ∧ ∀ B, FixOk B ct c.fns c.cs → ∃ ta, (∀ X, XOk B c X → PA X es ta) ∧ ∀ Y, YOk B Y → SndA Y ta f
  | [], f, h => by
    cases h
    exact ⟨(fun e he => nomatch he), fun B hB => ⟨tNil, fun X hX => L2.pa_nil, fun Y hY => snd_cNil⟩⟩
  | e :: es, f, h => by
    obtain ⟨g, h1, h2⟩ := bind_some h
    obtain ⟨r, h3, rfl⟩ := map_some h2
    obtain ⟨n, q⟩ := sd_D hO h1
    obtain ⟨ns, qs⟩ := sd_Ds hO h3
    refine ⟨fun x hx => (List.mem_cons.mp hx).elim (fun z => z ▸ n) (ns x), fun B hB => ?_⟩
    obtain ⟨te, a, b⟩ := q B hB
    obtain ⟨ta, a2, b2⟩ := qs B hB
    exact ⟨tCons te ta, fun X hX => L2.pa_cons (a X hX) (a2 X hX) (star_cons n), fun Y hY => snd_cCons (b Y hY) (b2 Y hY)⟩
theorem sd_As (hO : SO ct C) {c : Ctx} : ∀ {es : List Expr} {f : Ev (List SV)}, C.As c es = some f → (∀ e ∈ es, noStar e = true) ∧ ∀ B, FixOk B ct c.fns c.cs → ∃ ta, (∀ X, XOk B c X → PA X es ta) ∧ ∀ Y, YOk B Y → SndAS Y ta f
  | [], f, h => by
    cases h
    exact ⟨(fun e he => nomatch he), fun B hB => ⟨tNil, fun X hX => L2.pa_nil, fun Y hY => snd_cANil⟩⟩
  | e :: es, f, h => by
    obtain ⟨g, h1, h2⟩ := bind_some h
    obtain ⟨r, h3, rfl⟩ := map_some h2
    obtain ⟨n, q⟩ := hO c e g h1
    obtain ⟨ns, qs⟩ := sd_As hO h3
    refine ⟨fun x hx => (List.mem_cons.mp hx).elim (fun z => z ▸ n) (ns x), fun B hB => ?_⟩
    obtain ⟨te, a, b⟩ := q B hB
    obtain ⟨ta, a2, b2⟩ := qs B hB
    exact ⟨tCons te ta, fun X hX => L2.pa_cons (a X hX) (a2 X hX) (star_cons n), fun Y hY => snd_cACons (b Y hY) (b2 Y hY)⟩
theorem sd_Bd (hO : SO ct C) {c : Ctx} {o : Option Expr} {f : Ev (Option Int)} (h : C.Bd c o = some f) : ∀ B, FixOk B ct c.fns c.cs → ∃ tl, (∀ X, XOk B c X → L2.PO X o tl) ∧ ∀ Y, YOk B Y → SndB Y tl f := by
  cases o with
  | none =>
    cases h
    exact fun B hB => ⟨L2.tNoPart, fun X hX => L2.po_none, fun Y hY => snd_noB⟩
  | some e =>
    obtain ⟨g, h1, rfl⟩ := map_some h
    obtain ⟨n, q⟩ := sd_P hO h1
    intro B hB
    obtain ⟨te, a, b⟩ := q B hB
    exact ⟨L2.tPart te, fun X hX => L2.po_some (a X hX), fun Y hY => snd_cBd (b Y hY)⟩
/-- and, or: the values -/
theorem sd_Bs (hB : SB ct C) {c : Ctx} {op : BoolOp} : ∀ {es : List Expr} {f : Ev Bool}, C.Bs c op es = some f → ∀ B, FixOk B ct c.fns c.cs → ∃ te, (∀ X, XOk B c X → ∀ pos, PE X (.BoolOp op es pos) te) ∧ ∀ Y, YOk B Y → SndE Y (RelB Y) te f
  | [], f, h => by cases h
  | [e], f, h => by
    intro B hB'
    obtain ⟨_, q⟩ := hB c e f h
    obtain ⟨te, a, b⟩ := q B hB'
    exact ⟨te, fun X hX pos => L2.pe_one (a X hX), b⟩
  | e :: e2 :: es, f, h => by
    intro B hB'
    obtain ⟨g, h1, h2⟩ := bind_some h
    obtain ⟨r, h3, rfl⟩ := map_some h2
    obtain ⟨_, q⟩ := hB c e g h1
    obtain ⟨te, a, b⟩ := q B hB'
    obtain ⟨tr, a2, b2⟩ := sd_Bs hB h3 B hB'
    cases op with
    | And => exact ⟨L2.tAndV te tr, fun X hX pos => L2.pe_and (a X hX) (a2 X hX pos), fun Y hY => snd_andV (b Y hY) (b2 Y hY)⟩
    | Or => exact ⟨L2.tOrV te tr, fun X hX pos => L2.pe_or (a X hX) (a2 X hX pos), fun Y hY => snd_orV (b Y hY) (b2 Y hY)⟩
theorem sd_Ts (hT : ST ct C) {c : Ctx} {op : BoolOp} : ∀ {es : List Expr} {f : Ev Bool}, C.Ts c op es = some f → ∀ B, FixOk B ct c.fns c.cs → ∃ tt, (∀ X, XOk B c X → ∀ pos, PW X (.BoolOp op es pos) tt) ∧ ∀ Y, YOk B Y → SndT Y tt f
  | [], f, h => by cases h
  | [e], f, h => by
    intro B hB'
    obtain ⟨_, q⟩ := hT c e f h
    obtain ⟨te, a, b⟩ := q B hB'
    cases op with
    | And => exact ⟨te, fun X hX pos => L2.pw_and1 (a X hX), b⟩
    | Or => exact ⟨te, fun X hX pos => L2.pw_or1 (a X hX), b⟩
  | e :: e2 :: es, f, h => by
    intro B hB'
    obtain ⟨g, h1, h2⟩ := bind_some h
    obtain ⟨r, h3, rfl⟩ := map_some h2
    obtain ⟨_, q⟩ := hT c e g h1
    obtain ⟨te, a, b⟩ := q B hB'
    obtain ⟨tr, a2, b2⟩ := sd_Ts hT h3 B hB'
    cases op with
    | And => exact ⟨L2.tAnd te tr, fun X hX pos => L2.pw_and (a X hX) (a2 X hX pos), fun Y hY => snd_cAnd (b Y hY) (b2 Y hY)⟩
    | Or => exact ⟨L2.tOr te tr, fun X hX pos => L2.pw_or (a X hX) (a2 X hX pos), fun Y hY => snd_cOr (b Y hY) (b2 Y hY)⟩
theorem snd_cOfB {Y : Yx} {te : TE} {f : Ev D} (h : SndE Y (RelD Y) te f) : SndE Y (RelB Y) te (cOfB f) := by
  intro ρ FH H σ' σ g Q R hg
  refine h ρ FH H σ' σ g Q R (hg.bind.mono fun d σ2 g2 q v FH2 H2 R2 S E rel => ?_)
  obtain ⟨b, e, q⟩ := q.lift
  cases d with
  | bool b' =>
    simp only [boolOf, Option.some.injEq] at e
    subst e
    cases rel
    exact q _ FH2 H2 R2 S E rfl
  | _ => simp [boolOf] at e
/-! ### single operations by their names -/
theorem isGl_gl {B : Fix} {c : Ctx} {X : Cx} {x : Str} (hX : XOk B c X) (h : c.isGl x = true) : Gl X x := by
  unfold Ctx.isGl at h
  show X.env.scope.names.lookup x = _
  rw [hX.sc]
  split at h
  · assumption
  · cases h
theorem op_bop {B : Fix} {op : Operator} {o : D → D → Option SV} (h : bop op = some o) : ∃ r : R2, (∀ c X, XOk B c X → OpR X (binaryOp op) r) ∧ ∀ Y, YOk B Y → Op2 Y r o := by
  cases op with
  | Add => cases h; exact ⟨rAdd B.K, fun c X hX => hX.eK ▸ op_add, fun Y hY => hY.K ▸ o2_add⟩
  | Sub => cases h; exact ⟨rSub, fun c X hX => op_sub, fun Y hY => o2_sub⟩
  | Mult => cases h; exact ⟨rMul B.K, fun c X hX => hX.eK ▸ op_mul, fun Y hY => hY.K ▸ o2_mul⟩
  | FloorDiv => cases h; exact ⟨rDiv, fun c X hX => op_div, fun Y hY => o2_div⟩
  | Mod => cases h; exact ⟨rMod, fun c X hX => op_mod, fun Y hY => o2_mod⟩
  | Pow => cases h; exact ⟨rPow, fun c X hX => op_pow, fun Y hY => o2_pow⟩
  | _ => cases h
theorem op_cop {B : Fix} {op : CmpOp} {o : D → D → Option Bool} (hu : B.A.units + 80 < cLine) (h : cop op = some o) : ∃ r : R2, (∀ c X, XOk B c X → OpR X (compareOp op) r) ∧ ∀ Y, YOk B Y → OpB Y r o := by
  have u64 : ∀ {c X}, XOk B c X → X.A.units + 64 < cLine := fun {c X} hX => by rw [hX.eA]; omega
  have u65 : ∀ {c X}, XOk B c X → X.A.units + 65 < cLine := fun {c X} hX => by rw [hX.eA]; omega
  cases op with
  | Eq => cases h; exact ⟨rEqq B.K, fun c X hX => hX.eK ▸ op_eq (u64 hX), fun Y hY => hY.K ▸ ob_eq⟩
  | NotEq => cases h; exact ⟨rNee B.K, fun c X hX => hX.eK ▸ op_ne (u64 hX), fun Y hY => hY.K ▸ ob_ne⟩
  | Lt => cases h; exact ⟨rLt, fun c X hX => L2.op_lt, fun Y hY => ob_lt⟩
  | LtE => cases h; exact ⟨rLe, fun c X hX => L2.op_le, fun Y hY => ob_le⟩
  | Gt => cases h; exact ⟨rGt, fun c X hX => L2.op_gt, fun Y hY => ob_gt⟩
  | GtE => cases h; exact ⟨rGe, fun c X hX => L2.op_ge, fun Y hY => ob_ge⟩
  | Is => cases h; exact ⟨rIs, fun c X hX => op_is, fun Y hY => ob_is⟩
  | IsNot => cases h; exact ⟨rIsNot, fun c X hX => op_isnot, fun Y hY => ob_isnot⟩
  | In => cases h; exact ⟨rInn B.K, fun c X hX => hX.eK ▸ op_in (u65 hX), fun Y hY => hY.K ▸ ob_in⟩
  | NotIn => cases h; exact ⟨rNotInn B.K, fun c X hX => hX.eK ▸ op_notin (u65 hX), fun Y hY => hY.K ▸ ob_notin⟩
/-- a built-in function of one argument, called -/
theorem pe_f1 {B : Fix} {x : Str} {o : D → Option SV} (hb : ∀ x ∈ blts, B.mg x = none) (h : f1 x = some o) : ∃ r : List V → Hp → VK → Prop, (∀ c X, XOk B c X → c.isGl x = true → okName x = true → ∀ (e : Expr) (te : TE) (p pos : Pos), noStar e = true → PE X e te → PE X (.Call (.Name x p) [e] [] pos) (tCB r (tCons te tNil))) ∧ ∀ Y, YOk B Y → Op1 Y (r1 r) o := by
  have mg : ∀ {c X} (y : Str), XOk B c X → y ∈ blts → X.mg y = none := fun {c X} y hX hy => by rw [hX.eM]; exact hb y hy
  have pa : ∀ {X : Cx} {e : Expr} {te : TE}, noStar e = true → PE X e te → PA X [e] (tCons te tNil) := fun {X e te} n h => L2.pa_cons h L2.pa_nil (star_cons n)
  unfold f1 at h
  split at h
  · rename_i e; subst e; cases h
    exact ⟨rLen B.K, fun c X hX hg ok e te p pos n he => by
      have := L2.pe_callB (pos := pos) (p := p) L2.call_len (isGl_gl hX hg) (mg _ hX (by decide +kernel)) boot_len (pa n he) (okName_1 ok).2.2 (okName_1 ok).1 (star_cons n) rfl
      rw [hX.eK] at this
      exact this, fun Y hY => hY.K ▸ o1_len⟩
  split at h
  · rename_i e; subst e; cases h
    exact ⟨rAbs, fun c X hX hg ok e te p pos n he => L2.pe_callB L2.call_abs (isGl_gl hX hg) (mg _ hX (by decide +kernel)) PyProof.Rows.boot_abs (pa n he) (okName_1 ok).2.2 (okName_1 ok).1 (star_cons n) rfl, fun Y hY => o1_abs⟩
  split at h
  · rename_i e; subst e; cases h
    exact ⟨rInt1, fun c X hX hg ok e te p pos n he => L2.pe_callTy L2.call_int1 (isGl_gl hX hg) (mg _ hX (by decide +kernel)) PyProof.Rows.boot_int (pa n he) (okName_1 ok).2.2 (okName_1 ok).1 (star_cons n) rfl, fun Y hY => o1_int⟩
  split at h
  · rename_i e; subst e; cases h
    exact ⟨rStr1, fun c X hX hg ok e te p pos n he => L2.pe_callTy L2.call_str_int (isGl_gl hX hg) (mg _ hX (by decide +kernel)) PyProof.Rows.boot_str (pa n he) (okName_1 ok).2.2 (okName_1 ok).1 (star_cons n) rfl, fun Y hY => o1_str⟩
  split at h
  · rename_i e; subst e; cases h
    exact ⟨L2.rSum B.K, fun c X hX hg ok e te p pos n he => by
      have := L2.pe_callB (pos := pos) (p := p) (L2.cr_sum hX.calm) (isGl_gl hX hg) (mg _ hX (by decide +kernel)) PyProof.Rows.boot_sum (pa n he) (okName_1 ok).2.2 (okName_1 ok).1 (star_cons n) rfl
      rw [hX.eK] at this
      exact this, fun Y hY => hY.K ▸ o1_sum⟩
  split at h
  · rename_i e; subst e; cases h
    exact ⟨rTup1 B.K, fun c X hX hg ok e te p pos n he => by
      have := L2.pe_callTy (pos := pos) (p := p) L2.call_tuple_of (isGl_gl hX hg) (mg _ hX (by decide +kernel)) PyProof.Rows.boot_tuple (pa n he) (okName_1 ok).2.2 (okName_1 ok).1 (star_cons n) rfl
      rw [hX.eK] at this
      exact this, fun Y hY => hY.K ▸ o1_tuple⟩
  split at h
  · rename_i e; subst e; cases h
    exact ⟨rList1 B.K, fun c X hX hg ok e te p pos n he => by
      have := L2.pe_callTy (pos := pos) (p := p) L2.call_list_of (isGl_gl hX hg) (mg _ hX (by decide +kernel)) PyProof.Rows.boot_list (pa n he) (okName_1 ok).2.2 (okName_1 ok).1 (star_cons n) rfl
      rw [hX.eK] at this
      exact this, fun Y hY => hY.K ▸ o1_list⟩
  · cases h
theorem pe_f2 {B : Fix} {x : Str} {o : D → D → Option SV} (hb : ∀ x ∈ blts, B.mg x = none) (h : f2 x = some o) : ∃ r : List V → Hp → VK → Prop, (∀ c X, XOk B c X → c.isGl x = true → okName x = true → ∀ (e e2 : Expr) (te te2 : TE) (p pos : Pos), noStar e = true → noStar e2 = true → PE X e te → PE X e2 te2 → PE X (.Call (.Name x p) [e, e2] [] pos) (tCB r (tCons te (tCons te2 tNil)))) ∧ ∀ Y, YOk B Y → Op2 Y (r2 r) o := by
  have mg : ∀ {c X} (y : Str), XOk B c X → y ∈ blts → X.mg y = none := fun {c X} y hX hy => by rw [hX.eM]; exact hb y hy
  have nb : ∀ {X : Cx} {e2 : Expr} {pos : Pos}, noStar e2 = true → (backTo pos (starEach [e2] X.env)).any (·.1) = false := fun {X e2 pos} n => noback fun x hx => by
    have : x = e2 := by simpa using hx
    rw [this]; exact n
  unfold f2 at h
  split at h
  · rename_i e; subst e; cases h
    exact ⟨rMin2, fun c X hX hg ok e e2 te te2 p pos n n2 he he2 => L2.pe_callB (L2.call_min2 hX.calm) (isGl_gl hX hg) (mg _ hX (by decide +kernel)) PyProof.Rows.boot_min (L2.pa_cons he (L2.pa_cons he2 L2.pa_nil (star_cons n2)) (star_cons n)) (okName_1 ok).2.2 (okName_1 ok).1 (star_cons n) (nb n2), fun Y hY => o2_min⟩
  split at h
  · rename_i e; subst e; cases h
    exact ⟨rMax2, fun c X hX hg ok e e2 te te2 p pos n n2 he he2 => L2.pe_callB (L2.call_max2 hX.calm) (isGl_gl hX hg) (mg _ hX (by decide +kernel)) PyProof.Rows.boot_max (L2.pa_cons he (L2.pa_cons he2 L2.pa_nil (star_cons n2)) (star_cons n)) (okName_1 ok).2.2 (okName_1 ok).1 (star_cons n) (nb n2), fun Y hY => o2_max⟩
  · cases h
end
end
end FD
/-! FD13: what is walked, targets, comprehensions, calls: each level from the one below. -/
namespace FD
noncomputable section
open PySem
open L2 (Hp HO V upd upd_same upd_ne ne_of_none Rd SqL SqT Vals RelV VK TE TT TA TS TG TGs St XK Cx PE PT PW PA PS PSs PG PGs PI Inv OpR UnR CallR R2 rI0 rI tOp tUn tVar tC tCB tCons tNil SlR IxR MtR It TI XK Sp wipe tLc Ends Gl Vis Loc FnOk Room Binds CX0)
section
variable {ct : CT} {C : Cmp}
/-! ### walked -/
def SdI (ct : CT) (c : Ctx) (tg iter : Expr) (f : Ev (List D)) : Prop := noStar iter = true ∧ ∀ B, FixOk B ct c.fns c.cs → ∃ wi, (∀ X, XOk B c X → PI X tg iter wi) ∧ ∀ Y, YOk B Y → SndI Y wi f
theorem sdI_seq (hO : SO ct C) {c : Ctx} {tg iter : Expr} {f : Ev (List D)} (h : (C.Dd c iter).map iSeq = some f) : SdI ct c tg iter f := by
  obtain ⟨g, h1, rfl⟩ := map_some h
  obtain ⟨n, q⟩ := sd_D hO h1
  refine ⟨n, fun B hB => ?_⟩
  obtain ⟨te, a, b⟩ := q B hB
  exact ⟨iAny B.K te, fun X hX => by have := pi_any (tg := tg) (a X hX); rw [hX.eK] at this; exact this, fun Y hY => by have := snd_iSeq (b Y hY); rw [hY.K] at this; exact this⟩
theorem mgB {B : Fix} {c : Ctx} {X : Cx} (hb : ∀ x ∈ blts, B.mg x = none) (y : Str) (hX : XOk B c X) (hy : y ∈ blts) : X.mg y = none := by rw [hX.eM]; exact hb y hy
theorem sd_I (hO : SO ct C) {c : Ctx} {tg iter : Expr} {f : Ev (List D)} (h : C.I c tg iter = some f) : SdI ct c tg iter f := by
  unfold Cmp.I at h
  split at h
  · rename_i x p a pos
    split at h
    · rename_i e
      subst e
      split at h
      · rename_i gl
        obtain ⟨g, h1, rfl⟩ := map_some h
        obtain ⟨n, q⟩ := sd_P hO h1
        refine ⟨rfl, fun B hB => ?_⟩
        obtain ⟨te, a1, b1⟩ := q B hB
        exact ⟨L2.iRng1 (tCons te tNil), fun X hX => L2.pi_range1 (isGl_gl hX gl) (mgB hB.bs _ hX (by decide +kernel)) (L2.pa_cons (a1 X hX) L2.pa_nil (star_cons n)) (star_cons n), fun Y hY => snd_iR1 (b1 Y hY)⟩
      · cases h
    · split at h
      · rename_i e
        subst e
        split at h
        · split at h
          · rename_i gl
            obtain ⟨g, h1, rfl⟩ := map_some h
            obtain ⟨n, q⟩ := sd_D hO h1
            refine ⟨rfl, fun B hB => ?_⟩
            obtain ⟨te, a1, b1⟩ := q B hB
            exact ⟨iEnumA B.K (tCons te tNil), fun X hX => by
              rw [← hX.eK]
              exact pi_enumA (isGl_gl hX gl) (mgB hB.bs _ hX (by decide +kernel)) (L2.pa_cons (a1 X hX) L2.pa_nil (star_cons n)) (star_cons n), fun Y hY => by have := snd_iEnum (b1 Y hY); rw [hY.K] at this; exact this⟩
          · cases h
        · cases h
      · exact sdI_seq hO h
  · rename_i x p a b pos
    split at h
    · rename_i e
      subst e
      split at h
      · rename_i gl
        obtain ⟨g, h1, h⟩ := bind_some h
        obtain ⟨g2, h2, rfl⟩ := map_some h
        obtain ⟨n, q⟩ := sd_P hO h1
        obtain ⟨n2, q2⟩ := sd_P hO h2
        refine ⟨rfl, fun B hB => ?_⟩
        obtain ⟨te, a1, b1⟩ := q B hB
        obtain ⟨te2, a2, b2⟩ := q2 B hB
        exact ⟨L2.iRng2 (tCons te (tCons te2 tNil)), fun X hX => L2.pi_range2 (isGl_gl hX gl) (mgB hB.bs _ hX (by decide +kernel)) (L2.pa_cons (a1 X hX) (L2.pa_cons (a2 X hX) L2.pa_nil (star_cons n2)) (star_cons n)) (by rw [star_cons n, star_cons n2] <;> rfl) (by rw [star_cons n2] <;> rfl), fun Y hY => snd_iR2 (b1 Y hY) (b2 Y hY)⟩
      · cases h
    · split at h
      · rename_i e
        subst e
        split at h
        · split at h
          · rename_i gl
            obtain ⟨g, h1, h⟩ := bind_some h
            obtain ⟨g2, h2, rfl⟩ := map_some h
            obtain ⟨n, q⟩ := sd_D hO h1
            obtain ⟨n2, q2⟩ := sd_D hO h2
            refine ⟨rfl, fun B hB => ?_⟩
            obtain ⟨te, a1, b1⟩ := q B hB
            obtain ⟨te2, a2, b2⟩ := q2 B hB
            exact ⟨RZ.iZipA B.K (tCons te (tCons te2 tNil)), fun X hX => by
              rw [← hX.eK]
              exact RZ.pi_zipA (isGl_gl hX gl) (mgB hB.bs _ hX (by decide +kernel)) (L2.pa_cons (a1 X hX) (L2.pa_cons (a2 X hX) L2.pa_nil (star_cons n2)) (star_cons n)) (star_cons n) (noback fun x hx => by
                have e : x = b := by simpa using hx
                rw [e]; exact n2), fun Y hY => by have := snd_iZip (b1 Y hY) (b2 Y hY); rw [hY.K] at this; exact this⟩
          · cases h
        · cases h
      · exact sdI_seq hO h
  · exact sdI_seq hO h
/-! ### targets -/
theorem asg_cons {e : Expr} {es : List Expr} {env : Env} (h : noStar e = true) : assignEach (e :: es) env = (false, assign e env) :: assignEach es env := by
  cases e <;> first | rfl | (simp [noStar] at h)
theorem asg_len {env : Env} : ∀ {es : List Expr}, (∀ e ∈ es, noStar e = true) → (assignEach es env).length = es.length ∧ (assignEach es env).findIdx? (·.1) = none
  | [], _ => ⟨rfl, rfl⟩
  | e :: es, h => by
    obtain ⟨h1, h2⟩ := asg_len (env := env) fun x hx => h x (List.mem_cons_of_mem _ hx)
    rw [asg_cons (h e List.mem_cons_self)]
    refine ⟨by rw [List.length_cons, List.length_cons, h1], ?_⟩
    rw [List.findIdx?_cons, h2]
    rfl
def SdG (ct : CT) (c : Ctx) (vs : List Nat) (e : Expr) (t : TgF) : Prop := noStar e = true ∧ ∀ B : Fix, ∃ gt, (∀ X, XOk B c X → PG X e gt) ∧ ∀ Y, YOk B Y → SndG Y vs gt t
theorem sd_gs {c : Ctx} {vs : List Nat} {F : Expr → Option TgF} (hF : ∀ e t, F e = some t → SdG ct c vs e t) : ∀ {es : List Expr} {t : List D → Ev Unit}, tgL F es = some t → (∀ e ∈ es, noStar e = true) ∧ ∀ B : Fix, ∃ gts, (∀ X, XOk B c X → PGs X es gts) ∧ ∀ Y, YOk B Y → SndGs Y vs gts t
  | [], t, h => by
    cases h
    exact ⟨(fun e he => nomatch he), fun B => ⟨L2.gNil, fun X hX => L2.pgs_nil, fun Y hY => snd_gN⟩⟩
  | e :: es, t, h => by
    obtain ⟨g, h1, h2⟩ := bind_some h
    obtain ⟨r, h3, rfl⟩ := map_some h2
    obtain ⟨n, q⟩ := hF e g h1
    obtain ⟨ns, qs⟩ := sd_gs hF h3
    refine ⟨fun x hx => (List.mem_cons.mp hx).elim (fun z => z ▸ n) (ns x), fun B => ?_⟩
    obtain ⟨gt, a, b⟩ := q B
    obtain ⟨gts, a2, b2⟩ := qs B
    exact ⟨L2.gCons gt gts, fun X hX => L2.pgs_cons (a X hX) (a2 X hX) (by rw [asg_cons n]; rfl), fun Y hY => snd_gC (b Y hY) (b2 Y hY)⟩
theorem sd_tg {c : Ctx} {vs : List Nat} : ∀ {n : Nat} {e : Expr} {t : TgF}, tgOf c vs n e = some t → SdG ct c vs e t
  | 0, e, t, h => by cases h
  | n + 1, e, t, h => by
    unfold tgOf at h
    split at h
    · rename_i x pos
      split at h
      · rename_i hs
        split at h
        · rename_i i hi
          split at h
          · rename_i hv
            cases h
            refine ⟨rfl, fun B => ⟨L2.gName i, fun X hX => ?_, fun Y hY => snd_gNm (by simpa using hv)⟩⟩
            obtain ⟨q1, q2⟩ := hX.sto x hs
            exact L2.pg_name (by rw [hX.hN]; exact hX.nd) (by rw [hX.hN]; exact ixOf_get hi) q1 q2
          · cases h
        · cases h
      · cases h
    · rename_i es k pos
      obtain ⟨ts, h1, rfl⟩ := map_some h
      obtain ⟨ns, q⟩ := sd_gs (ct := ct) (fun e t h => sd_tg (n := n) h) h1
      refine ⟨rfl, fun B => ?_⟩
      obtain ⟨gts, a, b⟩ := q B
      refine ⟨L2.gTup B.K es.length gts, fun X hX => ?_, fun Y hY => by have := snd_gTp (n := es.length) (b Y hY); rw [hY.K] at this; exact this⟩
      obtain ⟨l1, l2⟩ := asg_len (env := X.env) ns
      have := L2.pg_tup (pos := pos) (k := k) hX.calm (a X hX) l1 l2
      rw [hX.eK] at this
      exact this
    · cases h
/-! ### a comprehension's block -/
theorem mem_own {N : List Str} {scope : Scope} {x : Str} {i : Nat} (h : (x, i) ∈ ownOf N scope) : ∃ k, (x, k) ∈ scope.names ∧ (k = .local ∨ k = .cell) ∧ ixOf x N = some i := by
  unfold ownOf at h
  rw [List.mem_filterMap] at h
  obtain ⟨⟨n, k⟩, h1, h2⟩ := h
  cases k with
  | «local» =>
    obtain ⟨j, e1, e2⟩ := map_some (show (ixOf n N).map (fun i => (n, i)) = some (x, i) from h2)
    cases e2
    exact ⟨_, h1, .inl rfl, e1⟩
  | cell =>
    obtain ⟨j, e1, e2⟩ := map_some (show (ixOf n N).map (fun i => (n, i)) = some (x, i) from h2)
    cases e2
    exact ⟨_, h1, .inr rfl, e1⟩
  | free => cases h2
  | globalExplicit => cases h2
  | globalImplicit => cases h2
theorem xok_blk {B : Fix} {c : Ctx} {X : Cx} {scope : Scope} (hX : XOk B c X) (ok : L2.BlkOk c.N c.sc scope (ownOf c.N scope)) (s : Shared) (H : Hp) (Cc : Addr) (cl : List (Str × Addr)) (fp : List Addr) :
    XOk B (c.blk scope) (X.blk s H scope (compEnvC scope cl Cc X.env) fp) := by
  have esc : (compEnvC scope cl Cc X.env).scope = L2.relS scope c.sc := by
    show relabel scope X.env = _
    unfold relabel L2.relS
    show ({ scope with names := scope.names.map _ } : Scope) = _
    have : ∀ n, X.env.kindOf n = c.sc.names.lookup n := fun n => by
      show X.env.scope.names.lookup n = _
      rw [hX.sc]
    simp only [this, hX.sc]
  refine ⟨hX.eP, hX.eW, hX.eK, hX.eM, hX.eB, hX.eA, hX.hN, hX.nd, esc, ok.kind, fun x hx => ?_, hX.calm, PassesOwn.never⟩
  have hx : x ∈ (ownOf c.N scope).map (·.1) := by simpa [Ctx.blk] using hx
  rw [List.mem_map] at hx
  obtain ⟨⟨y, i⟩, h1, e⟩ := hx
  have e : y = x := e
  subst e
  obtain ⟨k, h2, h3, _⟩ := mem_own h1
  have lk : scope.names.lookup y = some k := ok.uniq _ h2
  have lk2 : (compEnvC scope cl Cc X.env).scope.names.lookup y = some k := by
    rw [esc]
    exact L2.lookup_relS_keep (by rcases h3 with z | z <;> (rw [z]; decide)) lk
  rcases h3 with z | z
  · subst z
    exact ⟨.inl lk2, .inr lk2⟩
  · subst z
    exact ⟨.inr lk2, .inl (by show (scope.names.lookup y == some NameKind.cell) = true; rw [lk]; rfl)⟩
theorem FixOk.blk {B : Fix} {c : Ctx} {scope : Scope} (h : FixOk B ct c.fns c.cs) : FixOk B ct (c.blk scope).fns (c.blk scope).cs := h
end
end
end FD
/-! FD14: a level of expressions from the one below. -/
namespace FD
noncomputable section
open PySem
open L2 (Hp HO V upd upd_same upd_ne ne_of_none Rd SqL SqT Vals RelV VK TE TT TA TS TG TGs St XK Cx PE PT PW PA PS PSs PG PGs PI Inv OpR UnR CallR R2 rI0 rI tOp tUn tVar tC tCB tCons tNil SlR IxR MtR It TI XK Sp wipe tLc Ends Gl Vis Loc FnOk Room Binds CX0)
section
variable {ct : CT} {C : Cmp}
/-- a comparison, as a value and as a test -/
def SdCmp (ct : CT) (c : Ctx) (e : Expr) (f : Ev Bool) : Prop := noStar e = true ∧ ∀ B, FixOk B ct c.fns c.cs → ∃ te, (∀ X, XOk B c X → PE X e te ∧ PT X e (L2.tTest te)) ∧ ∀ Y, YOk B Y → SndE Y (RelB Y) te f
theorem SdCmp.val {c : Ctx} {e : Expr} {f : Ev Bool} (h : SdCmp ct c e f) : Sd ct RelB c e f := ⟨h.1, fun B hB => let ⟨te, a, b⟩ := h.2 B hB; ⟨te, fun X hX => (a X hX).1, b⟩⟩
theorem sb_cmp {c : Ctx} {op : CmpOp} {a b : Expr} {pos : Pos} {f : Ev Bool} (hO : SO ct C) (h : ((cop op).bind fun o => (C.P c a).bind fun f => (C.P c b).map fun h => cCmp o f h) = some f) : SdCmp ct c (.Compare a [op] [b] pos) f := by
  obtain ⟨o, h1, h⟩ := bind_some h
  obtain ⟨g, h2, h⟩ := bind_some h
  obtain ⟨g2, h3, rfl⟩ := map_some h
  obtain ⟨n, q⟩ := sd_P hO h2
  obtain ⟨n2, q2⟩ := sd_P hO h3
  refine ⟨rfl, fun B hB => ?_⟩
  obtain ⟨te, a1, b1⟩ := q B hB
  obtain ⟨te2, a2, b2⟩ := q2 B hB
  obtain ⟨r, x1, x2⟩ := op_cop (B := B) hB.un h1
  exact ⟨tOp r te te2, fun X hX => ⟨L2.pe_cmpR (x1 c X hX) (a1 X hX) (a2 X hX) (noBehind n2), L2.pt_cmpR (x1 c X hX) (a1 X hX) (a2 X hX) (noBehind n2)⟩, fun Y hY => snd_cCmp (b1 Y hY) (b2 Y hY) (x2 Y hY)⟩
theorem sb_chain {c : Ctx} {op op' : CmpOp} {a b d : Expr} {pos : Pos} {f : Ev Bool} (hO : SO ct C)
    (h : ((cop op).bind fun o => (cop op').bind fun o' => (C.P c a).bind fun f => (C.P c b).bind fun h => (C.P c d).map fun k => cChain o o' f h k) = some f) : SdCmp ct c (.Compare a [op, op'] [b, d] pos) f := by
  obtain ⟨o, h1, h⟩ := bind_some h
  obtain ⟨o', h1', h⟩ := bind_some h
  obtain ⟨g, h2, h⟩ := bind_some h
  obtain ⟨g2, h3, h⟩ := bind_some h
  obtain ⟨g3, h4, rfl⟩ := map_some h
  obtain ⟨n, q⟩ := sd_P hO h2
  obtain ⟨n2, q2⟩ := sd_P hO h3
  obtain ⟨n3, q3⟩ := sd_P hO h4
  refine ⟨rfl, fun B hB => ?_⟩
  obtain ⟨te, a1, b1⟩ := q B hB
  obtain ⟨te2, a2, b2⟩ := q2 B hB
  obtain ⟨te3, a3, b3⟩ := q3 B hB
  obtain ⟨r, x1, x2⟩ := op_cop (B := B) hB.un h1
  obtain ⟨r', x1', x2'⟩ := op_cop (B := B) hB.un h1'
  have lm : lastMarks [op, op'] [b, d] = false := noBehind (op := op') n3
  exact ⟨L2.tChain r r' te te2 te3, fun X hX => ⟨L2.pe_chain (x1 c X hX) (x1' c X hX) (a1 X hX) (a2 X hX) (a3 X hX) lm, L2.pt_chain (x1 c X hX) (x1' c X hX) (a1 X hX) (a2 X hX) (a3 X hX) lm⟩, fun Y hY => snd_cChain (b1 Y hY) (b2 Y hY) (b3 Y hY) (x2 Y hY) (x2' Y hY)⟩
theorem sb_gen {c : Ctx} {e : Expr} {f : Ev Bool} (hO : SO ct C) (h : (C.Dd c e).map cOfB = some f) : Sd ct RelB c e f := by
  obtain ⟨g, h1, rfl⟩ := map_some h
  obtain ⟨n, q⟩ := sd_D hO h1
  refine ⟨n, fun B hB => ?_⟩
  obtain ⟨te, a1, b1⟩ := q B hB
  exact ⟨te, a1, fun Y hY => snd_cOfB (b1 Y hY)⟩
theorem bt_ty {y : Str} {t : BT} (h : btOf y = some t) : y = t.nm ∧ bootBuiltins y = some (.type t.nm) ∧ y ∈ blts ∧ okName y = true := by
  unfold btOf at h
  split at h
  · rename_i e; cases h; subst e; exact ⟨rfl, PyProof.Rows.boot_int, by decide +kernel, by decide +kernel⟩
  split at h
  · rename_i e; cases h; subst e; exact ⟨rfl, PyProof.Rows.boot_bool, by decide +kernel, by decide +kernel⟩
  split at h
  · rename_i e; cases h; subst e; exact ⟨rfl, PyProof.Rows.boot_str, by decide +kernel, by decide +kernel⟩
  split at h
  · rename_i e; cases h; subst e; exact ⟨rfl, PyProof.Rows.boot_list, by decide +kernel, by decide +kernel⟩
  split at h
  · rename_i e; cases h; subst e; exact ⟨rfl, PyProof.Rows.boot_tuple, by decide +kernel, by decide +kernel⟩
  · cases h
theorem stepB_ok (hO : SO ct C) (hB' : SB ct C) {c : Ctx} {e : Expr} {f : Ev Bool} (h : stepB C c e = some f) : Sd ct RelB c e f := by
  unfold stepB at h
  split at h
  · exact (sb_cmp hO h).val
  · exact (sb_chain hO h).val
  · rename_i op es pos
    refine ⟨rfl, fun B hB => ?_⟩
    obtain ⟨te, a1, b1⟩ := sd_Bs hB' h B hB
    exact ⟨te, fun X hX => a1 X hX pos, b1⟩
  · obtain ⟨g, h1, rfl⟩ := map_some h
    obtain ⟨n, q⟩ := hB' _ _ _ h1
    refine ⟨rfl, fun B hB => ?_⟩
    obtain ⟨te, a1, b1⟩ := q B hB
    exact ⟨L2.tNotV te, fun X hX => L2.pe_not (a1 X hX), fun Y hY => snd_notV (b1 Y hY)⟩
  · rename_i x q a y r p
    split at h
    · rename_i e
      subst e
      split at h
      · rename_i gl
        rw [Bool.and_eq_true] at gl
        obtain ⟨t, h1, h⟩ := bind_some h
        obtain ⟨g, h2, rfl⟩ := map_some h
        obtain ⟨n, q⟩ := sd_P hO h2
        refine ⟨rfl, fun B hB => ?_⟩
        obtain ⟨te, a1, b1⟩ := q B hB
        obtain ⟨e1, e2, e3, e4⟩ := bt_ty h1
        refine ⟨tCB (L2.rIsi B.K) (tCons te (tCons (tC (.ty t.nm)) tNil)), fun X hX => ?_, fun Y hY => by have := snd_cIsI (T := t) (b1 Y hY); rw [hY.K] at this; exact this⟩
        have hy : PE X (.Name y r) (tC (.ty t.nm)) := L2.pe_bltn (isGl_gl hX gl.2) (mgB hB.bs _ hX e3) e2 rfl (okName_1 e4).2.2 (okName_1 e4).1
        rw [← hX.eK]
        exact L2.pe_callB L2.call_isi (isGl_gl hX gl.1) (mgB hB.bs _ hX (by decide +kernel)) PyProof.Rows.boot_isinstance (L2.pa_cons (a1 X hX) (L2.pa_cons hy L2.pa_nil (star_cons rfl)) (star_cons n)) (by decide +kernel) (by decide +kernel) (star_cons n) rfl
      · cases h
    · exact sb_gen hO h
  · exact sb_gen hO h
theorem st_gen {c : Ctx} {e : Expr} {f : Ev Bool} (hO : SO ct C) (hp : ∀ (env : Env) whole, isTrue e env whole = (do let v ← whole; standAt e.pos; holding [v] (truthy v))) (h : (C.P c e).map cTru = some f) :
    noStar e = true ∧ ∀ B, FixOk B ct c.fns c.cs → ∃ tt, (∀ X, XOk B c X → PT X e tt) ∧ ∀ Y, YOk B Y → SndT Y tt f := by
  obtain ⟨g, h1, rfl⟩ := map_some h
  obtain ⟨n, q⟩ := sd_P hO h1
  refine ⟨n, fun B hB => ?_⟩
  obtain ⟨te, a1, b1⟩ := q B hB
  refine ⟨fun σ H Q => te σ H fun x H' => ∃ k, L2.TruV B.K x H' k ∧ Q k H', fun X hX => ?_, fun Y hY => by have := snd_cTru (b1 Y hY); rw [hY.K] at this; exact this⟩
  have := L2.pt_truth (a1 X hX) (hp X.env)
  rw [hX.eK] at this
  exact this
theorem st_val {c : Ctx} {e : Expr} {f : Ev Bool} (hB' : SB ct C) (hp : ∀ (env : Env) whole, isTrue e env whole = (do let v ← whole; standAt e.pos; holding [v] (truthy v))) (h : C.B c e = some f) :
    noStar e = true ∧ ∀ B, FixOk B ct c.fns c.cs → ∃ tt, (∀ X, XOk B c X → PT X e tt) ∧ ∀ Y, YOk B Y → SndT Y tt f := by
  obtain ⟨n, q⟩ := hB' _ _ _ h
  refine ⟨n, fun B hB => ?_⟩
  obtain ⟨te, a1, b1⟩ := q B hB
  exact ⟨L2.tB te, fun X hX => L2.pt_val (a1 X hX) (hp X.env), fun Y hY => snd_tTest (b1 Y hY)⟩
theorem cmp_t {c : Ctx} {e : Expr} {f : Ev Bool} (z : SdCmp ct c e f) : noStar e = true ∧ ∀ B, FixOk B ct c.fns c.cs → ∃ tt, (∀ X, XOk B c X → PT X e tt) ∧ ∀ Y, YOk B Y → SndT Y tt f :=
  ⟨z.1, fun B hB => let ⟨te, a, b⟩ := z.2 B hB; ⟨L2.tTest te, fun X hX => (a X hX).2, fun Y hY => snd_tTest (b Y hY)⟩⟩
theorem stepT_ok (hO : SO ct C) (hB' : SB ct C) (hT : ST ct C) {c : Ctx} {e : Expr} {f : Ev Bool} (h : stepT C c e = some f) :
    noStar e = true ∧ ∀ B, FixOk B ct c.fns c.cs → ∃ tt, (∀ X, XOk B c X → PT X e tt) ∧ ∀ Y, YOk B Y → SndT Y tt f := by
  unfold stepT at h
  split at h
  · rename_i op es pos
    refine ⟨rfl, fun B hB => ?_⟩
    obtain ⟨te, a1, b1⟩ := sd_Ts hT h B hB
    exact ⟨te, fun X hX => (a1 X hX pos).pt, b1⟩
  · obtain ⟨g, h1, rfl⟩ := map_some h
    obtain ⟨n, q⟩ := hT _ _ _ h1
    refine ⟨rfl, fun B hB => ?_⟩
    obtain ⟨te, a1, b1⟩ := q B hB
    exact ⟨L2.tNot te, fun X hX => L2.pt_not (a1 X hX), fun Y hY => snd_cNot (b1 Y hY)⟩
  · exact cmp_t (sb_cmp hO h)
  · exact cmp_t (sb_chain hO h)
  · cases h
  · cases h
  · split at h
    · exact st_val hB' (fun _ _ => rfl) h
    · exact st_gen hO (fun _ _ => rfl) h
  · rename_i n1 n2 n3 n4 n5 n6 _
    refine st_gen hO (fun env whole => ?_) h
    cases e with
    | BoolOp op es pos => exact absurd rfl (n1 op es pos)
    | UnaryOp op a pos =>
      cases op with
      | Not => exact absurd rfl (n2 a pos)
      | _ => rfl
    | Compare a ops es pos => exact absurd rfl (n5 a ops es pos)
    | IfExp t a b pos => exact absurd rfl (n6 t a b pos)
    | _ => rfl
end
end
end FD
/-! FD15: all levels of expressions. -/
namespace FD
noncomputable section
open PySem PySem.W PySem.Spec PyProof.Rows
open L2 (Hp HO V upd upd_same upd_ne ne_of_none Rd SqL SqT Vals RelV VK TE TT TA TS TG TGs XK Cx PE PT PW PA PS PSs PG PGs PI Inv OpR UnR CallR R2 rI0 rI tOp tUn tVar tC tCB tCons tNil SlR IxR MtR It TI XK Sp wipe tLc Ends Gl Vis Loc FnOk Room Binds CX0 EP)
/-! ### index -/
def rIndexU (K : PySem.W.Frag) : V → List V → Hp → VK → Prop := fun x xs H Q => ∃ (a : Addr) (y : V) (d : PyData) (ds : List PyData) (j : Nat) (z : PyData), x = V.ref a ∧ xs = [y] ∧ L2.Dp K H (V.ref a) (.tuple ds) ∧ L2.Dp K H y d ∧
  SeqAt.shaped (.tuple ds) = true ∧ SeqAt.shaped d = true ∧ ds[j]? = some z ∧ PyData.eqv z d = true ∧ (∀ (m : Nat) (z' : PyData), m < j → ds[m]? = some z' → PyData.eqv z' d = false) ∧ Q (.int (j : Nat)) H
theorem mt_indexU {X : Cx} (hu : X.A.units + 65 < cLine) : MtR X "tuple.index" (rIndexU X.K) := by
  intro pins s σ H x xs v us Q I rx rxs h
  obtain ⟨a, y, d, ds, j, z, rfl, rfl, hl, hy, sl, sd, hz, hzj, hno, q⟩ := h
  cases rx
  cases rxs with
  | cons ry rt =>
    rename_i uy ut
    cases rt
    obtain ⟨bs, r1⟩ := L2.Dp.reads I d y uy hy ry
    have hxs : PyData.canLayAll0 ds = true := SeqAt.canLay_of_shaped sl
    have hroom : X.A.units + 1 + min (PyData.depthAll ds) d.depth < cLine := room_in sd hu
    cases hl with
    | tup hs ha =>
      obtain ⟨its, rv, ⟨⟨cls, dd, data, sls⟩, ho, hc, n, hdt⟩, hlen⟩ := I.tuple hs
      simp only at hc hdt
      subst hc hdt
      obtain ⟨as, h4⟩ := L2.Dp.readsAll I ds _ its ha rv
      have hn : its.length = ds.length := SeqAt.ReadsAll.length ds its as h4
      have hmap : its.map (SeqAt.readOf s.heap) = ds := SeqAt.readsAll_map ds its as hxs h4
      have hvl := rv.length
      have hsl := sizeLine_eq
      obtain ⟨hjd, _⟩ := List.getElem?_eq_some_iff.mp hz
      have hjl : j < its.length := by omega
      have hj : j < its.toArray.size := by simpa using hjl
      have at_ : ∀ (m : Nat) (hm : m < its.toArray.size) (z' : PyData), ds[m]? = some z' → SeqAt.readOf s.heap its.toArray[m] = z' := by
        intro m hm z' hz'
        have hml : m < its.length := by simpa using hm
        rw [← hmap, List.getElem?_map, List.getElem?_eq_getElem hml] at hz'
        have e1 : SeqAt.readOf s.heap its[m] = z' := Option.some.inj (show some (SeqAt.readOf s.heap its[m]) = some z' from hz')
        simpa using e1
      refine call_meets PySem.F.slot_tuple_index ⟨_, ho, rfl⟩ PySem.F.entry_tuple_index (PySem.F.args_tuple_index_2 _ _)
        (TI.tuple_indexAt a its.toArray n dd sls uy (fun u => PyData.eqv (SeqAt.readOf s.heap u) d) j hj ?_ ?_) ⟨ho, SeqAt.items_eqAt (vs := its.toArray) (show ReadsAll s.heap its.toArray.toList ds as from h4) r1 hxs (SeqAt.canLay_of_shaped sd) hroom, ?_⟩
      · show PyData.eqv (SeqAt.readOf s.heap its.toArray[j]) d = true
        rw [at_ j hj z hz]
        exact hzj
      · intro m hm hmj
        have hmd : m < ds.length := by omega
        have hz' : ds[m]? = some ds[m] := List.getElem?_eq_getElem hmd
        show PyData.eqv (SeqAt.readOf s.heap its.toArray[m]) d = false
        rw [at_ m hm _ hz']
        exact hno m _ hmj hz'
      · exact ⟨.int (j : Nat), H, I.tok _, ⟨_, rfl⟩, q⟩
theorem firstIx_spec {d : D} : ∀ {ds : List D} {j : Nat}, firstIx d ds = some j → ∃ z, ds[j]? = some z ∧ PyData.eqv z d = true ∧ ∀ (m : Nat) (z' : D), m < j → ds[m]? = some z' → PyData.eqv z' d = false
  | [], j, h => by cases h
  | z :: r, j, h => by
    unfold firstIx at h
    split at h
    · rename_i e
      cases h
      exact ⟨z, rfl, e, fun m z' hm => absurd hm (Nat.not_lt_zero m)⟩
    · rename_i e
      rw [Option.map_eq_some_iff] at h
      obtain ⟨j', h1, rfl⟩ := h
      obtain ⟨w, w1, w2, w3⟩ := firstIx_spec h1
      refine ⟨w, by rw [List.getElem?_cons_succ]; exact w1, w2, fun m z' hm hz => ?_⟩
      cases m with
      | zero =>
        simp only [List.getElem?_cons_zero, Option.some.injEq] at hz
        subst hz
        simpa using e
      | succ m =>
        rw [List.getElem?_cons_succ] at hz
        exact w3 m z' (by omega) hz
section
variable {Y : Yx}
theorem snd_cIxL {ta tb : TE} {f1 f2 : Ev D} (ha : SndE Y (RelP Y) ta f1) (hb : SndE Y (RelP Y) tb f2) : SndE Y (RelO Y) (L2.tBM Y.K "list" (L2.rIndexD Y.K) ta (tCons tb tNil)) (cIxL f1 f2) := by
  intro ρ FH H σ' σ g Q R hg
  refine ha ρ FH H σ' σ g _ R (hg.bind.mono fun d σ2 g2 q v FH2 H2 R2 S E rel => ?_)
  cases d with
  | list ds =>
    obtain ⟨p, vs, rfl, h1, h2⟩ := rel.list R2
    refine ⟨.inl ⟨rfl, vs, .inl h1⟩, hb ρ FH2 H2 σ' σ2 g2 _ R2 (q.bind.mono fun e σ3 g3 q u FH3 H3 R3 S3 E3 rel3 => ?_)⟩
    obtain ⟨sv, eq, q⟩ := q.lift
    simp only [pyIndex] at eq
    split at eq
    · rename_i sh
      rw [Bool.and_eq_true] at sh
      rw [Option.map_eq_some_iff] at eq
      obtain ⟨j, fj, rfl⟩ := eq
      obtain ⟨z, w1, w2, w3⟩ := firstIx_spec fj
      exact ⟨p, u, e, ds, j, z, rfl, rfl, (rel.up S3 E3 R3).dp R3, rel3.dp R3, sh.2, sh.1, w1, w2, w3, q _ FH3 H3 R3 (S.trans S3) (E.trans E3) (.int _)⟩
    · cases eq
  | _ => exact q.elim
theorem snd_cIxK {p : Addr} {o : Obj} {d : D} {tb : TE} {f : Ev D} (hk : Y.K.lookup p = some o) (hc : o.cls = .type "tuple") (hd : o.dict = none) (hv : Dq Y.K (fun _ => none) (.ref p) d) (hb : SndE Y (RelP Y) tb f) :
    SndE Y (RelO Y) (L2.tBM Y.K "tuple" (rIndexU Y.K) (tC (.ref p)) (tCons tb tNil)) (cIxK d f) := by
  intro ρ FH H σ' σ g Q R hg
  cases d with
  | tuple ds =>
    refine ⟨.inr (.inl ⟨rfl, o, hk, hc, hd⟩), hb ρ FH H σ' σ g _ R (Good.mono (Good.bind hg) fun e σ3 g3 q u FH3 H3 R3 S3 E3 rel3 => ?_)⟩
    obtain ⟨sv, eq, q⟩ := q.lift
    simp only [pyIndexK] at eq
    split at eq
    · rename_i sh
      rw [Bool.and_eq_true] at sh
      rw [Option.map_eq_some_iff] at eq
      obtain ⟨j, fj, rfl⟩ := eq
      obtain ⟨z, w1, w2, w3⟩ := firstIx_spec fj
      exact ⟨p, u, e, ds, j, z, rfl, rfl, Dq.dp _ (Dq.up (fun _ _ e => by cases e) _ hv), rel3.dp R3, sh.2, sh.1, w1, w2, w3, q _ FH3 H3 R3 S3 E3 (.int _)⟩
    · cases eq
  | _ => exact hg.elim
end
section
variable {ct : CT} {C : Cmp}
theorem few_ok {e : Expr} {env : Env} {cpos : Pos} (n : noStar e = true) : ((backTo cpos (starEach [e] env)).all (fun x => !x.1) && (backToKw cpos (keywordEach [] env)).all (fun x => x.1.isSome)
      && decide (([e] : List Expr).length + ([] : List Keyword).length + (if ([] : List Keyword).isEmpty then 0 else 1) < 30)) = true := by
  rw [star_cons n]
  rfl
theorem so_bin {c : Ctx} {a b : Expr} {op : Operator} {pos : Pos} {f : Ev SV} (hO : SO ct C) (h : ((bop op).bind fun o => (C.P c a).bind fun f => (C.P c b).map fun h => c2 o f h) = some f) : Sd ct RelO c (.BinOp a op b pos) f := by
  obtain ⟨o, h1, h⟩ := bind_some h
  obtain ⟨g, h2, h⟩ := bind_some h
  obtain ⟨g2, h3, rfl⟩ := map_some h
  obtain ⟨n, q⟩ := sd_P hO h2
  obtain ⟨n2, q2⟩ := sd_P hO h3
  refine ⟨rfl, fun B hB => ?_⟩
  obtain ⟨te, a1, b1⟩ := q B hB
  obtain ⟨te2, a2, b2⟩ := q2 B hB
  obtain ⟨r, x1, x2⟩ := op_bop (B := B) h1
  exact ⟨tOp r te te2, fun X hX => L2.pe_op (x1 c X hX) (a1 X hX) (a2 X hX), fun Y hY => snd_c2 (b1 Y hY) (b2 Y hY) (x2 Y hY)⟩
theorem so_ix {c : Ctx} {a b : Expr} {pos : Pos} {f : Ev SV} (hO : SO ct C) (h : ((C.P c a).bind fun f => (C.P c b).map fun h => c2 pyIx f h) = some f) : Sd ct RelO c (.Subscript a b pos) f := by
  obtain ⟨g, h2, h⟩ := bind_some h
  obtain ⟨g2, h3, rfl⟩ := map_some h
  obtain ⟨n, q⟩ := sd_P hO h2
  obtain ⟨n2, q2⟩ := sd_P hO h3
  refine ⟨rfl, fun B hB => ?_⟩
  obtain ⟨te, a1, b1⟩ := q B hB
  obtain ⟨te2, a2, b2⟩ := q2 B hB
  refine ⟨tOp (L2.rIx B.K) te te2, fun X hX => ?_, fun Y hY => by have := snd_c2 (b1 Y hY) (b2 Y hY) o2_ix; rw [hY.K] at this; exact this⟩
  rw [← hX.eK]
  exact L2.pe_ix L2.ix_seq (a1 X hX) (a2 X hX) (plainIx n2)
theorem isCon_eq {e : Expr} {i : Int} (h : isCon e i = true) : ∃ k pos, e = .Constant (.int i) k pos := by
  unfold isCon at h
  split at h
  · rename_i j k pos
    have e : i = j := by simpa using h
    subst e
    exact ⟨k, pos, rfl⟩
  · cases h
theorem so_call {c : Ctx} {x : Str} {q p : Pos} {a : Expr} {as : List Expr} {f : Ev SV} {i n : Nat} (hO : SO ct C) (gl : c.isGl x = true) (ok : okName x = true) (hf : c.fns.lookup x = some (i, n)) (h : (C.As c (a :: as)).map (fun r => cCall ct i r) = some f) :
    Sd ct RelO c (.Call (.Name x q) (a :: as) [] p) f := by
  obtain ⟨r, h1, rfl⟩ := map_some h
  obtain ⟨ns, qs⟩ := sd_As hO h1
  refine ⟨rfl, fun B hB => ?_⟩
  obtain ⟨ta, a1, b1⟩ := qs B hB
  obtain ⟨har, fa, fd, k, ps, m1, m2, m3, m4, m5⟩ := hB.fns x i n hf
  have n0 := ns a List.mem_cons_self
  refine ⟨L2.tCallSD (spF B.K XC0 false n (ct i)) [] (fun _ => L2.E0) ta, fun X hX => ?_, fun Y hY => ?_⟩
  · obtain ⟨e1, e2, e3, e4, e5, e6⟩ : X.prog = B.prog ∧ X.w = B.w ∧ X.K = B.K ∧ X.mg = B.mg ∧ X.base = B.base ∧ X.A = B.A := ⟨hX.eP, hX.eW, hX.eK, hX.eM, hX.eB, hX.eA⟩
    refine L2.pe_callSD (k := k) (f := fa) (fd := fd) (ps := ps) (CX := CX0) (ds := []) ?_ (by rw [e6]; exact m3) (isGl_gl hX gl) (by rw [e4]; exact m1) (by rw [e3]; exact m2) (by rw [e3]; exact m4) .nil (fun σ => ?_) (a1 X hX) (okName_1 ok).1 (star_cons n0) (noback fun z hz => ns z (List.mem_cons_of_mem _ hz))
    · rw [e1, e2, e3, e4, e5]
      exact m5
    · intro _ _ _ _ _ _ z
      exact z.elim
  · have := snd_cCall (k := i) (ct := ct) (ar := n) (XC := XC0) (E := fun _ => L2.E0) (b1 Y hY) har (fun e σ g g3 ρ FH H σ' z _ => (hY.ex e σ g3 z).elim)
    rw [hY.K] at this
    exact this
/-- a comprehension, as a value and stored under a name at once -/
def SdLc (ct : CT) (c : Ctx) (e : Expr) (f : Ev SV) : Prop := noStar e = true ∧ ∀ B, FixOk B ct c.fns c.cs → ∃ te, (∀ X, XOk B c X → PE X e te ∧ ∀ (i : Nat) (y : Str) (py spos : Pos), X.N[i]? = some y → X.env.scope.names.lookup y = some .local → swapsWith e (some (.Name y py)) spos.line X.env = pure true →
  PS X (.Assign [.Name y py] e spos) (L2.tAsg te (L2.gName i))) ∧ ∀ Y, YOk B Y → SndE Y (RelO Y) te f
theorem so_lc {c : Ctx} {elt tg iter : Expr} {ifs : List Expr} {scope : Scope} {pos : Pos} {f : Ev SV} (hO : SO ct C) (hT : ST ct C) (h : (if L2.blkC c.N c.sc scope (ownOf c.N scope) = true then
      (C.I c tg iter).bind fun it => (tgOf (c.blk scope) ((ownOf c.N scope).map (·.2)) 5 tg).bind fun t => (match ifs with
        | [] => some cYes
        | [b] => C.T (c.blk scope) b
        | _ => none).bind fun ft => (C.Dd (c.blk scope) elt).map fun f => cLc it (List.map Prod.snd (ownOf c.N scope)) t ft f
    else none) = some f) : SdLc ct c (.ListComp elt [⟨tg, iter, ifs, 0⟩] scope pos) f := by
  split at h
  · rename_i bk
    have bo := L2.blkOk_by bk
    obtain ⟨it, h1, h⟩ := bind_some h
    obtain ⟨t, h2, h⟩ := bind_some h
    obtain ⟨ft, h3, h⟩ := bind_some h
    obtain ⟨fe, h4, rfl⟩ := map_some h
    obtain ⟨n1, q1⟩ := sd_I hO h1
    obtain ⟨n2, q2⟩ := sd_tg (ct := ct) h2
    obtain ⟨n4, q4⟩ := sd_D hO h4
    refine ⟨rfl, fun B hB => ?_⟩
    obtain ⟨wi, a1, b1⟩ := q1 B hB
    obtain ⟨gt, a2, b2⟩ := q2 B
    obtain ⟨te, a4, b4⟩ := q4 B (FixOk.blk hB)
    have q3 : ∃ tt, (∀ X, XOk B (c.blk scope) X → L2.PTs X ifs tt) ∧ ∀ Y, YOk B Y → SndT Y tt ft := by
      split at h3
      · cases h3
        exact ⟨L2.tYes, fun X hX => L2.pts_nil, fun Y hY ρ FH H σ' σ g Q R hg => hg FH H R (Sub.refl _) (Evo.refl _)⟩
      · obtain ⟨_, q⟩ := hT _ _ _ h3
        obtain ⟨tt, a, b⟩ := q B (FixOk.blk hB)
        exact ⟨tt, fun X hX => L2.pts_one (a X hX), b⟩
      · cases h3
    obtain ⟨tt, a3, b3⟩ := q3
    refine ⟨tLc wi gt tt te (List.map Prod.snd (ownOf c.N scope)), fun X hX => ?_, fun Y hY => snd_cLc (b1 Y hY) (fun p acc => b2 _ (hY.under p acc)) (fun p acc => b3 _ (hY.under p acc)) (fun p acc => b4 _ (hY.under p acc))⟩
    have bo' : L2.BlkOk X.N X.env.scope scope (ownOf c.N scope) := by rw [hX.hN, hX.sc]; exact bo
    have nd : X.N.Nodup := by rw [hX.hN]; exact hX.nd
    exact ⟨L2.pe_lc hX.calm nd (a1 X hX) bo' (fun s H Cc cl fp => a2 _ (xok_blk hX bo s H Cc cl fp)) (fun s H Cc cl fp => a3 _ (xok_blk hX bo s H Cc cl fp)) (fun s H Cc cl fp => a4 _ (xok_blk hX bo s H Cc cl fp)) (noFold n1),
      fun i y py spos hi hy hs => L2.ps_setLc hX.calm nd hi hy hs (a1 X hX) bo' (fun s H Cc cl fp => a2 _ (xok_blk hX bo s H Cc cl fp)) (fun s H Cc cl fp => a3 _ (xok_blk hX bo s H Cc cl fp)) (fun s H Cc cl fp => a4 _ (xok_blk hX bo s H Cc cl fp)) (noFold n1)⟩
  · cases h
theorem stepO_ok (hO : SO ct C) (hB' : SB ct C) (hT : ST ct C) {c : Ctx} {e : Expr} {f : Ev SV} (h : stepO ct C c e = some f) : Sd ct RelO c e f := by
  have viaB : ∀ {e : Expr} {f : Ev SV}, (C.B c e).map cB = some f → Sd ct RelO c e f := fun {e f} h => by
    obtain ⟨g, h1, rfl⟩ := map_some h
    obtain ⟨n, q⟩ := hB' _ _ _ h1
    refine ⟨n, fun B hB => ?_⟩
    obtain ⟨te, a1, b1⟩ := q B hB
    exact ⟨te, a1, fun Y hY => snd_cB (b1 Y hY)⟩
  unfold stepO at h
  split at h
  · cases h
    exact ⟨rfl, fun B hB => ⟨_, fun X hX => L2.pe_int, fun Y hY => snd_cK (.int _)⟩⟩
  · cases h
    exact ⟨rfl, fun B hB => ⟨_, fun X hX => L2.pe_bl, fun Y hY => snd_cK (.bl _)⟩⟩
  · cases h
    exact ⟨rfl, fun B hB => ⟨_, fun X hX => L2.pe_non, fun Y hY => snd_cK .non⟩⟩
  · cases h
    exact ⟨rfl, fun B hB => ⟨_, fun X hX => L2.pe_str, fun Y hY => snd_cK (.str _)⟩⟩
  · -- a name
    rename_i x pos
    split at h
    · rename_i i hi
      split at h
      · rename_i ok
        cases h
        exact ⟨rfl, fun B hB => ⟨tVar i, fun X hX => pe_slot hX hi ok, fun Y hY => snd_cVE⟩⟩
      · cases h
    · split at h
      · rename_i gl
        rw [Bool.and_eq_true] at gl
        obtain ⟨d, h1, rfl⟩ := map_some h
        refine ⟨rfl, fun B hB => ?_⟩
        obtain ⟨u, v, m1, m2, m3, _⟩ := hB.cs x d h1
        exact ⟨tC v, fun X hX => L2.pe_glob (isGl_gl hX gl.1) (by rw [hX.eM]; exact m1) m2 (okName_1 gl.2).1, fun Y hY => snd_cK (by rw [hY.K]; exact m3)⟩
      · cases h
  · exact so_bin hO h
  · obtain ⟨g, h1, rfl⟩ := map_some h
    obtain ⟨n, q⟩ := sd_P hO h1
    refine ⟨rfl, fun B hB => ?_⟩
    obtain ⟨te, a1, b1⟩ := q B hB
    exact ⟨tUn rNeg te, fun X hX => L2.pe_un un_neg (a1 X hX), fun Y hY => snd_c1 (b1 Y hY) o1_neg⟩
  · exact viaB h
  · exact viaB h
  · exact viaB h
  · obtain ⟨ft, h1, h⟩ := bind_some h
    obtain ⟨fa, h2, h⟩ := bind_some h
    obtain ⟨fb, h3, rfl⟩ := map_some h
    obtain ⟨_, q1⟩ := hT _ _ _ h1
    obtain ⟨_, q2⟩ := hO _ _ _ h2
    obtain ⟨_, q3⟩ := hO _ _ _ h3
    refine ⟨rfl, fun B hB => ?_⟩
    obtain ⟨tt, a1, b1⟩ := q1 B hB
    obtain ⟨t2, a2, b2⟩ := q2 B hB
    obtain ⟨t3, a3, b3⟩ := q3 B hB
    exact ⟨L2.tIf tt t2 t3, fun X hX => L2.pe_ifExp (a1 X hX) (a2 X hX) (a3 X hX), fun Y hY => snd_cIteE (b1 Y hY) (b2 Y hY) (b3 Y hY)⟩
  · obtain ⟨r, h1, rfl⟩ := map_some h
    obtain ⟨_, q⟩ := sd_Ds hO h1
    refine ⟨rfl, fun B hB => ?_⟩
    obtain ⟨ta, a1, b1⟩ := q B hB
    exact ⟨L2.tTup ta, fun X hX => L2.pe_tup (a1 X hX), fun Y hY => snd_cTup (b1 Y hY)⟩
  · obtain ⟨r, h1, rfl⟩ := map_some h
    obtain ⟨_, q⟩ := sd_Ds hO h1
    refine ⟨rfl, fun B hB => ?_⟩
    obtain ⟨ta, a1, b1⟩ := q B hB
    exact ⟨L2.tLst ta, fun X hX => L2.pe_lst (a1 X hX), fun Y hY => snd_cLst (b1 Y hY)⟩
  · obtain ⟨g, h1, h⟩ := bind_some h
    obtain ⟨l, h2, h⟩ := bind_some h
    obtain ⟨u, h3, rfl⟩ := map_some h
    obtain ⟨n, q⟩ := sd_P hO h1
    refine ⟨rfl, fun B hB => ?_⟩
    obtain ⟨te, a1, b1⟩ := q B hB
    obtain ⟨tl, a2, b2⟩ := sd_Bd hO h2 B hB
    obtain ⟨th, a3, b3⟩ := sd_Bd hO h3 B hB
    refine ⟨L2.tSl (rSl B.K) te tl th, fun X hX => ?_, fun Y hY => by have := snd_cSlice (b1 Y hY) (b2 Y hY) (b3 Y hY) os_sl; rw [hY.K] at this; exact this⟩
    rw [← hX.eK]
    exact L2.pe_slice sl_any (a1 X hX) (a2 X hX) (a3 X hX)
  · -- an item
    rename_i a b pos _
    split at h
    · rename_i x xp
      split at h
      · rename_i i hi
        split at h
        · rename_i ok
          obtain ⟨g, h1, rfl⟩ := map_some h
          obtain ⟨n2, q⟩ := sd_P hO h1
          refine ⟨rfl, fun B hB => ?_⟩
          obtain ⟨te, a1, b1⟩ := q B hB
          refine ⟨tOp (L2.rIx B.K) (tVar i) te, fun X hX => ?_, fun Y hY => by have := snd_cVIx (i := i) (b1 Y hY); rw [hY.K] at this; exact this⟩
          rw [← hX.eK]
          exact L2.pe_ix L2.ix_seq (pe_slot hX hi ok) (a1 X hX) (plainIx n2)
        · cases h
      · exact so_ix hO h
    · rename_i x xp k kp
      split at h
      · rename_i i hi
        split at h
        · rename_i ok
          cases h
          rw [Bool.and_eq_true, Bool.and_eq_true] at ok
          obtain ⟨k1, p1, rfl⟩ := isCon_eq ok.1.1
          obtain ⟨k2, p2, rfl⟩ := isCon_eq ok.1.2
          refine ⟨rfl, fun B hB => ⟨tOp (L2.rIx B.K) (tOp (L2.rIx B.K) (tVar i) (tC (.int 1))) (tC (.int 0)), fun X hX => ?_, fun Y hY => by have := snd_cV10 (Y := Y) (i := i); rw [hY.K] at this; exact this⟩⟩
          rw [← hX.eK]
          exact L2.pe_ix L2.ix_seq (L2.pe_ix L2.ix_seq (pe_slot hX hi ok.2) L2.pe_int (plainIx rfl)) L2.pe_int (plainIx rfl)
        · exact so_ix hO h
      · exact so_ix hO h
    · exact so_ix hO h
  · -- a call
    rename_i x q a as p
    split at h
    · rename_i gl
      rw [Bool.and_eq_true] at gl
      split at h
      · exact viaB h
      · split at h
        · rename_i i n hf
          exact so_call hO gl.1 gl.2 hf h
        · split at h
          · obtain ⟨o, h1, h⟩ := bind_some h
            obtain ⟨g, h2, rfl⟩ := map_some h
            obtain ⟨n, q⟩ := sd_P hO h2
            refine ⟨rfl, fun B hB => ?_⟩
            obtain ⟨te, a1, b1⟩ := q B hB
            obtain ⟨r, x1, x2⟩ := pe_f1 (B := B) hB.bs h1
            exact ⟨tCB r (tCons te tNil), fun X hX => x1 c X hX gl.1 gl.2 a te _ _ n (a1 X hX), fun Y hY => snd_c1 (b1 Y hY) (x2 Y hY)⟩
          · rename_i b
            obtain ⟨o, h1, h⟩ := bind_some h
            obtain ⟨g, h2, h⟩ := bind_some h
            obtain ⟨g2, h3, rfl⟩ := map_some h
            obtain ⟨n, q⟩ := sd_P hO h2
            obtain ⟨n2, q2⟩ := sd_P hO h3
            refine ⟨rfl, fun B hB => ?_⟩
            obtain ⟨te, a1, b1⟩ := q B hB
            obtain ⟨te2, a2, b2⟩ := q2 B hB
            obtain ⟨r, x1, x2⟩ := pe_f2 (B := B) hB.bs h1
            exact ⟨tCB r (tCons te (tCons te2 tNil)), fun X hX => x1 c X hX gl.1 gl.2 a b te te2 _ _ n n2 (a1 X hX) (a2 X hX), fun Y hY => snd_c2 (b1 Y hY) (b2 Y hY) (x2 Y hY)⟩
          · cases h
    · cases h
  · -- index
    rename_i x xp m ap a cp
    split at h
    · rename_i ok
      rw [Bool.and_eq_true, Bool.and_eq_true] at ok
      have em : m = "index" := by simpa using ok.1.1
      subst em
      split at h
      · rename_i i hi
        obtain ⟨g, h1, rfl⟩ := map_some h
        obtain ⟨n, q⟩ := sd_P hO h1
        refine ⟨rfl, fun B hB => ?_⟩
        obtain ⟨te, a1, b1⟩ := q B hB
        refine ⟨L2.tBM B.K "list" (L2.rIndexD B.K) (tVar i) (tCons te tNil), fun X hX => ?_, fun Y hY => by have := snd_cIxL (snd_cVP (i := i)) (b1 Y hY); rw [hY.K] at this; exact this⟩
        have u65 : X.A.units + 65 < cLine := by have := hB.un; rw [hX.eA]; omega
        rw [← hX.eK]
        exact L2.pe_bm PySem.F.plainAttrs_list PySem.F.slot_list_index PySem.F.type_list_index (L2.mt_indexD u65) (pe_slot hX hi ok.2) (L2.pa_cons (a1 X hX) L2.pa_nil (star_cons n)) rfl (few_ok n) ok.1.2 (star_cons n) rfl
      · split at h
        · rename_i gl
          split at h
          · rename_i d hd
            obtain ⟨g, h1, rfl⟩ := map_some h
            obtain ⟨n, q⟩ := sd_P hO h1
            refine ⟨rfl, fun B hB => ?_⟩
            obtain ⟨te, a1, b1⟩ := q B hB
            obtain ⟨u, v, m1, m2, m3, m4⟩ := hB.cs x d hd
            have u65 : ∀ {X : Cx}, XOk B c X → X.A.units + 65 < cLine := fun {X} hX => by have := hB.un; rw [hX.eA]; omega
            by_cases isT : ∃ ds, d = .tuple ds
            · obtain ⟨ds, rfl⟩ := isT
              obtain ⟨p, o, rfl, w1, w2, w3⟩ := m4 ds rfl
              refine ⟨L2.tBM B.K "tuple" (rIndexU B.K) (tC (.ref p)) (tCons te tNil), fun X hX => ?_, fun Y hY => by have := snd_cIxK (Y := Y) (by rw [hY.K]; exact w1) w2 w3 (by rw [hY.K]; exact m3) (b1 Y hY); rw [hY.K] at this; exact this⟩
              rw [← hX.eK]
              exact L2.pe_bm PySem.F.plainAttrs_tuple PySem.F.slot_tuple_index PySem.F.type_tuple_index (mt_indexU (u65 hX)) (L2.pe_glob (isGl_gl hX gl) (by rw [hX.eM]; exact m1) m2 (okName_1 ok.2).1) (L2.pa_cons (a1 X hX) L2.pa_nil (star_cons n)) rfl (few_ok n) ok.1.2 (star_cons n) rfl
            · refine ⟨L2.tBM B.K "tuple" (rIndexU B.K) (tC v) (tCons te tNil), fun X hX => ?_, fun Y hY ρ FH H σ' σ g Q R hg => ?_⟩
              · rw [← hX.eK]
                exact L2.pe_bm PySem.F.plainAttrs_tuple PySem.F.slot_tuple_index PySem.F.type_tuple_index (mt_indexU (u65 hX)) (L2.pe_glob (isGl_gl hX gl) (by rw [hX.eM]; exact m1) m2 (okName_1 ok.2).1) (L2.pa_cons (a1 X hX) L2.pa_nil (star_cons n)) rfl (few_ok n) ok.1.2 (star_cons n) rfl
              · cases d with
                | tuple ds => exact absurd ⟨ds, rfl⟩ isT
                | _ => exact hg.elim
          · cases h
        · cases h
    · cases h
  · obtain ⟨n, q⟩ := so_lc hO hT h
    exact ⟨n, fun B hB => let ⟨te, a, b⟩ := q B hB; ⟨te, fun X hX => (a X hX).1, b⟩⟩
  · cases h
theorem cmp_ok : ∀ n : Nat, SO ct (cmp ct n) ∧ SB ct (cmp ct n) ∧ ST ct (cmp ct n)
  | 0 => ⟨(fun c e f h => nomatch h), (fun c e f h => nomatch h), (fun c e f h => nomatch h)⟩
  | n + 1 => by
    obtain ⟨h1, h2, h3⟩ := cmp_ok n
    exact ⟨fun c e f h => stepO_ok h1 h2 h3 h, fun c e f h => stepB_ok h1 h2 h, fun c e f h => stepT_ok h1 h2 h3 h⟩
end
end
end FD
/-! FD16: statements from a text. -/
namespace FD
noncomputable section
open PySem PySem.W PySem.Spec PyProof.Rows
open L2 (Hp HO V upd upd_same upd_ne ne_of_none Rd SqL SqT Vals RelV VK TE TT TA TS TG TGs XK Cx PE PT PW PA PS PSs PG PGs PI Inv OpR UnR CallR R2 rI0 rI tOp tUn tVar tC tCB tCons tNil SlR IxR MtR It TI XK Sp wipe tLc Ends Gl Vis Loc FnOk Room Binds CX0 EP)
def pyAugAdd : D → D → Option SV
  | .int i, .int j => sInt (i + j)
  | .str x, .str y => if x.length + y.length ≤ 16777216 then some (.fz (.str (x ++ y))) else none
  | _, _ => none
def aop : Operator → Option (D → D → Option SV)
  | .Add => some pyAugAdd
  | .Sub => some pySub
  | _ => none
def Ctx.loc (c : Ctx) (x : Str) : Bool := match c.sc.names.lookup x with
  | some .local => true
  | _ => false
/-- the slot of a name that may be stored -/
def Ctx.put (c : Ctx) (x : Str) : Option Nat := if c.sto.contains x && okName x then ixOf x c.N else none
section
variable (ct : CT) (w m : Nat)
/-- may a value of this form be stored by a plain store -/
def plainVal : Expr → Bool
  | .ListComp _ _ _ _ => false
  | .SetComp _ _ _ _ => false
  | .DictComp _ _ _ _ _ => false
  | _ => true
def lcSwaps (c : Ctx) (y : Str) (pline : Nat) (scope : Scope) (vline : Nat) : Bool :=
  c.loc y && pline == vline && !(scope.names.any fun (n, k) => n == y && (k == .local || k == .cell))
def cVal (c : Ctx) (e : Expr) : Option (Ev SV) := match e with
  | .ListComp elt [⟨tg, iter, ifs, 0⟩] scope pos => stepO ct (cmp ct m) c (.ListComp elt [⟨tg, iter, ifs, 0⟩] scope pos)
  | e => if plainVal e then (cmp ct m).O c e else none
def cAss (c : Ctx) (x : Str) (e : Expr) : Option (Ev Fl) := (c.put x).bind fun i => (cVal ct m c e).map fun f => if c.law then sAsgN i f else sAsg i f
def ssOf (F : Ctx → Stmt → Option (Ev Fl)) (c : Ctx) : List Stmt → Option (Ev Fl)
  | [] => some sPass
  | [s] => F c s
  | s :: r => (F c s).bind fun f => (ssOf F c r).map fun h => sSeq f h
def stepS (F : Ctx → Stmt → Option (Ev Fl)) (c : Ctx) (st : Stmt) : Option (Ev Fl) := match st with
  | .Pass _ => some sPass
  | .Break _ => some sBrk
  | .Continue _ => some sCnt
  | .Return none _ => some sRetN
  | .Return (some (.Name x _)) _ => (match c.slot x with
    | some i => if okName x then some (sRet (cVR i)) else none
    | none => if c.isGl x && okName x then (c.cs.lookup x).map fun d => sRet (cK d) else none)
  | .Return (some (.List [a, .List [b] p1, d] p2)) _ =>
    if c.mkd then ((cmp ct m).Dd c a).bind fun f1 => ((cmp ct m).Dd c b).bind fun f2 => ((cmp ct m).Dd c d).map fun f3 => sRetDeal f1 f2 f3
    else ((cmp ct m).O c (.List [a, .List [b] p1, d] p2)).map sRet
  | .Return (some e) _ => ((cmp ct m).O c e).map sRet
  | .Assign [.Name x _] e _ => cAss ct m c x e
  | .Assign [.Tuple [.Name x px, .Name y py] _ _] (.Tuple [a, b] _ _) _ =>
    if c.loc x && c.loc y && x != y && px.line == py.line && !((foldedForSure 8 a && foldedForSure 8 b) || (constantsAlone 8 a && constantsAlone 8 b)) then (c.put x).bind fun i => (c.put y).bind fun j => ((cmp ct m).Dd c a).bind fun f1 => ((cmp ct m).Dd c b).map fun f2 => sPar i j f1 f2 else none
  | .Assign [.Tuple es k p] e _ => (match e with
    | .Tuple _ _ _ => none
    | e => if plainVal e then (tgOf c (List.range c.N.length) 5 (.Tuple es k p)).bind fun t => ((cmp ct m).Dd c e).map fun f => sUnp t f else none)
  | .Assign [.Subscript (.Name x _) k _] e _ => if okName x && plainVal e then (c.slot x).bind fun i => ((cmp ct m).P c k).bind fun fk => ((cmp ct m).Dd c e).map fun fe => sSetIx i fk fe else none
  | .Assign [.Subscript (.Subscript (.Name x _) k1 _) k2 _] e _ =>
    if okName x && plainVal e && isCon k1 1 && isCon k2 0 then (c.slot x).bind fun i => ((cmp ct m).Dd c e).map fun fe => sSetDeal i fe else none
  | .AugAssign (.Name x _) op e _ => (aop op).bind fun o => (c.put x).bind fun i => ((cmp ct m).P c e).map fun f => sAug o i f
  | .Expr (.Call (.Attribute (.Name x _) mn ap) [e] [] cp) _ =>
    if mn = "append" && ap.endLine == cp.line && okName x then (c.slot x).bind fun i => ((cmp ct m).Dd c e).map fun f => sApp i f else none
  | .If t a b _ => ((cmp ct m).T c t).bind fun ft => (ssOf F c a).bind fun fa => (ssOf F c b).map fun fb => sIf ft fa fb
  | .For tg iter body [] _ => ((cmp ct m).I c tg iter).bind fun it => (tgOf c (List.range c.N.length) 5 tg).bind fun t => (ssOf F c body).map fun fb => sFor it t fb
  | .While t body [] _ => ((cmp ct m).T c t).bind fun ft => (ssOf F c body).map fun fb => whileL ft fb w
  | _ => none
def cmpS : Nat → Ctx → Stmt → Option (Ev Fl)
  | 0 => fun _ _ => none
  | n + 1 => stepS ct w m (cmpS n)
/-- a def's body -/
def cmpBody (n : Nat) (c : Ctx) (b : List Stmt) : Option (Ev Fl) := ssOf (cmpS ct w m n) c b
end
def SdS (ct : CT) (c : Ctx) (st : Stmt) (f : Ev Fl) : Prop := ∀ B, FixOk B ct c.fns c.cs → ∃ ts, (∀ X, XOk B c X → PS X st ts) ∧ ∀ Y, YOk B Y → (c.law = true → Y.ρ0 = none) → SndS Y ts f
def SdSs (ct : CT) (c : Ctx) (st : List Stmt) (f : Ev Fl) : Prop := ∀ B, FixOk B ct c.fns c.cs → ∃ ts, (∀ X, XOk B c X → PSs X st ts) ∧ ∀ Y, YOk B Y → (c.law = true → Y.ρ0 = none) → SndS Y ts f
section
variable {ct : CT} {w m : Nat}
theorem sd_ss {F : Ctx → Stmt → Option (Ev Fl)} {c : Ctx} (hF : ∀ st f, F c st = some f → SdS ct c st f) : ∀ {ss : List Stmt} {f : Ev Fl}, ssOf F c ss = some f → SdSs ct c ss f
  | [], f, h => by
    cases h
    exact fun B hB => ⟨L2.tNext, fun X hX => L2.pss_nil, fun Y hY _ => snd_sPass⟩
  | [s], f, h => by
    intro B hB
    obtain ⟨ts, a, b⟩ := hF s f h B hB
    exact ⟨ts, fun X hX => L2.pss_one (a X hX), b⟩
  | s :: s2 :: r, f, h => by
    obtain ⟨g, h1, h⟩ := bind_some h
    obtain ⟨g2, h2, rfl⟩ := map_some h
    intro B hB
    obtain ⟨t1, a1, b1⟩ := hF s g h1 B hB
    obtain ⟨t2, a2, b2⟩ := sd_ss hF h2 B hB
    exact ⟨L2.tSeq t1 t2, fun X hX => L2.pss_cons (a1 X hX) (a2 X hX), fun Y hY hl => snd_sSeq (b1 Y hY hl) (b2 Y hY hl)⟩
theorem put_at {c : Ctx} {x : Str} {i : Nat} (h : c.put x = some i) : c.sto.contains x = true ∧ c.N[i]? = some x ∧ okName x = true := by
  unfold Ctx.put at h
  split at h
  · rename_i q
    rw [Bool.and_eq_true] at q
    exact ⟨q.1, ixOf_get h, q.2⟩
  · cases h
theorem swap_plain {e : Expr} {t : Option Expr} {l : Nat} {env : Env} (h : plainVal e = true) : swapsWith e t l env = pure false := by
  cases e <;> first | rfl | (simp [plainVal] at h)
theorem sd_ass {c : Ctx} {x : Str} {px spos : Pos} {e : Expr} {f : Ev Fl} (h : cAss ct m c x e = some f) : SdS ct c (.Assign [.Name x px] e spos) f := by
  obtain ⟨i, h1, h⟩ := bind_some h
  obtain ⟨g, h2, rfl⟩ := map_some h
  obtain ⟨p1, p2, p3⟩ := put_at h1
  -- the evaluator's side
  have ev : ∀ {te : TE} {Y : Yx}, (c.law = true → Y.ρ0 = none) → SndE Y (RelO Y) te g → SndS Y (L2.tAsg te (L2.gName i)) (if c.law then sAsgN i g else sAsg i g) := fun {te Y} hl q => by
    by_cases z : c.law = true
    · rw [if_pos z]
      exact snd_sAsgN (hl z) q
    · rw [if_neg z]
      exact snd_sAsg q
  unfold cVal at h2
  split at h2
  · rename_i elt tg iter ifs scope pos _
    intro B hB
    obtain ⟨c1, c2, c3⟩ := cmp_ok (ct := ct) m
    obtain ⟨n, q⟩ := so_lc c1 c3 (c := c) (elt := elt) (tg := tg) (iter := iter) (ifs := ifs) (scope := scope) (pos := pos) h2
    obtain ⟨te, a, b⟩ := q B hB
    refine ⟨L2.tAsg te (L2.gName i), fun X hX => ?_, fun Y hY hl => ev hl (b Y hY)⟩
    obtain ⟨a1, a2⟩ := a X hX
    obtain ⟨s1, s2⟩ := hX.sto x p1
    have hi : X.N[i]? = some x := by rw [hX.hN]; exact p2
    have sw : swapsWith (.ListComp elt [⟨tg, iter, ifs, 0⟩] scope pos) (some (.Name x px)) spos.line X.env = pure (X.env.blockKind == .function && X.env.kindOf x == some .local && px.line == pos.line && !(scope.names.any fun (n, k) => n == x && (k == .local || k == .cell))) := rfl
    by_cases z : (X.env.blockKind == .function && X.env.kindOf x == some .local && px.line == pos.line && !(scope.names.any fun (n, k) => n == x && (k == .local || k == .cell))) = true
    · rw [z] at sw
      rw [Bool.and_eq_true, Bool.and_eq_true, Bool.and_eq_true] at z
      exact a2 i x px spos hi (by simpa [Env.kindOf] using z.1.1.2) sw
    · have z : (X.env.blockKind == .function && X.env.kindOf x == some .local && px.line == pos.line && !(scope.names.any fun (n, k) => n == x && (k == .local || k == .cell))) = false := Bool.eq_false_iff.mpr z
      rw [z] at sw
      exact L2.ps_set (by rw [hX.hN]; exact hX.nd) hi s1 a1 sw s2
  · split at h2
    · rename_i pl
      intro B hB
      obtain ⟨n, q⟩ := (cmp_ok (ct := ct) m).1 _ _ _ h2
      obtain ⟨te, a, b⟩ := q B hB
      refine ⟨L2.tAsg te (L2.gName i), fun X hX => ?_, fun Y hY hl => ev hl (b Y hY)⟩
      obtain ⟨s1, s2⟩ := hX.sto x p1
      exact L2.ps_set (by rw [hX.hN]; exact hX.nd) (by rw [hX.hN]; exact p2) s1 (a X hX) (swap_plain pl) s2
    · cases h2
theorem swSole {t e : Expr} {l : Nat} {env : Env} (h : plainVal e = true) : swapsWithSole [t] e l env = pure false := swap_plain h
theorem swNone {t e : Expr} {env : Env} (h : ∀ es k p, t ≠ .Tuple es k p) (h2 : ∀ es p, t ≠ .List es p) : swappedStores [t] e env = pure none := by
  cases t with
  | Tuple es k p => exact absurd rfl (h es k p)
  | List es p => exact absurd rfl (h2 es p)
  | _ => rfl
theorem swNone2 {es : List Expr} {k : Nat} {p : Pos} {e : Expr} {env : Env} (h : ∀ vs k p, e ≠ .Tuple vs k p) : swappedStores [.Tuple es k p] e env = pure none := by
  cases e with
  | Tuple vs k p => exact absurd rfl (h vs k p)
  | _ => rfl
theorem loc_at {B : Fix} {c : Ctx} {X : Cx} {x : Str} (hX : XOk B c X) (h : c.loc x = true) : X.env.scope.names.lookup x = some .local := by
  unfold Ctx.loc at h
  rw [hX.sc]
  split at h
  · assumption
  · cases h
theorem sw2 {env : Env} {x y : Str} {px py pt : Pos} {kt k2 pt2} {a b : Expr} (hk : env.blockKind = .function) (lx : env.scope.names.lookup x = some .local) (ly : env.scope.names.lookup y = some .local) (xy : x ≠ y) (hl : (px.line == py.line) = true)
    (hc : (!((foldedForSure 8 a && foldedForSure 8 b) || (constantsAlone 8 a && constantsAlone 8 b))) = true) (n1 : noStar a = true) (n2 : noStar b = true) :
    swappedStores [.Tuple [.Name x px, .Name y py] kt pt] (.Tuple [a, b] k2 pt2) env = pure (some [x, y]) := by
  have k1 : env.kindOf x = some .local := lx
  have k2' : env.kindOf y = some .local := ly
  have hl : px.line = py.line := by simpa using hl
  have xy' : (y == x) = false := by simpa using fun q => xy q.symm
  simp only [Bool.not_eq_true', Bool.or_eq_false_iff] at hc
  obtain ⟨hc1, hc2⟩ := hc
  have t1 : ∀ e p, a = .Starred e p → False := fun e p q => by subst q; cases n1
  have t2 : ∀ e p, b = .Starred e p → False := fun e p q => by subst q; cases n2
  clear n1 n2
  have bb : (ScopeKind.function != ScopeKind.function) = false := by decide
  unfold swappedStores
  simp [hk, k1, k2', hl, List.eraseDups, List.eraseDupsBy, List.eraseDupsBy.loop, xy', hc1, hc2, Expr.pos, bb]

theorem stepS_ok {F : Ctx → Stmt → Option (Ev Fl)} (hF : ∀ c st f, F c st = some f → SdS ct c st f) {c : Ctx} {st : Stmt} {f : Ev Fl} (h : stepS ct w m F c st = some f) : SdS ct c st f := by
  have hO := (cmp_ok (ct := ct) m).1
  have hT := (cmp_ok (ct := ct) m).2.2
  have ret : ∀ {e : Expr} {pos : Pos} {f : Ev Fl}, ((cmp ct m).O c e).map sRet = some f → SdS ct c (.Return (some e) pos) f := fun {e pos f} h => by
    obtain ⟨g, h1, rfl⟩ := map_some h
    intro B hB
    obtain ⟨_, q⟩ := hO _ _ _ h1
    obtain ⟨te, a, b⟩ := q B hB
    exact ⟨L2.tRet te, fun X hX => L2.ps_ret (a X hX), fun Y hY _ => snd_sRet (b Y hY)⟩
  unfold stepS at h
  split at h
  · cases h
    exact fun B hB => ⟨L2.tNext, fun X hX => L2.ps_pass, fun Y hY _ => snd_sPass⟩
  · cases h
    exact fun B hB => ⟨L2.tBreak, fun X hX => L2.ps_break, fun Y hY _ => snd_sBrk⟩
  · cases h
    exact fun B hB => ⟨L2.tCont, fun X hX => L2.ps_continue, fun Y hY _ => snd_sCnt⟩
  · cases h
    exact fun B hB => ⟨L2.tRetN, fun X hX => L2.ps_retN, fun Y hY _ => snd_sRetN⟩
  · -- return x
    rename_i x xp pos
    split at h
    · rename_i i hi
      split at h
      · rename_i ok
        cases h
        exact fun B hB => ⟨L2.tRet (tVar i), fun X hX => L2.ps_ret (pe_slot hX hi ok), fun Y hY _ => snd_sRetV⟩
      · cases h
    · split at h
      · rename_i gl
        rw [Bool.and_eq_true] at gl
        obtain ⟨d, h1, rfl⟩ := map_some h
        intro B hB
        obtain ⟨u, v, m1, m2, m3, _⟩ := hB.cs x d h1
        exact ⟨L2.tRet (tC v), fun X hX => L2.ps_ret (L2.pe_glob (isGl_gl hX gl.1) (by rw [hX.eM]; exact m1) m2 (okName_1 gl.2).1), fun Y hY _ => snd_sRet (snd_cK (by rw [hY.K]; exact m3))⟩
      · cases h
  · -- return [row, [at], total]
    rename_i a b p1 d p2 pos
    split at h
    · obtain ⟨f1, h1, h⟩ := bind_some h
      obtain ⟨f2, h2, h⟩ := bind_some h
      obtain ⟨f3, h3, rfl⟩ := map_some h
      obtain ⟨n1, q1⟩ := sd_D hO h1
      obtain ⟨n2, q2⟩ := sd_D hO h2
      obtain ⟨n3, q3⟩ := sd_D hO h3
      intro B hB
      obtain ⟨t1, a1, b1⟩ := q1 B hB
      obtain ⟨t2, a2, b2⟩ := q2 B hB
      obtain ⟨t3, a3, b3⟩ := q3 B hB
      exact ⟨_, fun X hX => L2.ps_ret (L2.pe_lst (L2.pa_cons (a1 X hX) (L2.pa_cons (L2.pe_lst (L2.pa_cons (a2 X hX) L2.pa_nil (star_cons n2))) (L2.pa_cons (a3 X hX) L2.pa_nil (star_cons n3)) (star_cons rfl)) (star_cons n1))),
        fun Y hY _ => snd_sRetDeal (b1 Y hY) (b2 Y hY) (fun p acc => b3 _ (hY.under p acc))⟩
    · exact ret h
  · exact ret h
  · exact sd_ass h
  · -- a, b = x, y
    rename_i x px y py kt pt a b k2 pt2 pos
    split at h
    · rename_i z
      rw [Bool.and_eq_true, Bool.and_eq_true, Bool.and_eq_true, Bool.and_eq_true] at z
      obtain ⟨⟨⟨⟨z1, z2⟩, z3⟩, z4⟩, z5⟩ := z
      have z3 : x ≠ y := by simpa using z3
      obtain ⟨i, h1, h⟩ := bind_some h
      obtain ⟨j, h2, h⟩ := bind_some h
      obtain ⟨f1, h3, h⟩ := bind_some h
      obtain ⟨f2, h4, rfl⟩ := map_some h
      obtain ⟨n1, q1⟩ := sd_D hO h3
      obtain ⟨n2, q2⟩ := sd_D hO h4
      obtain ⟨p1, p2, p3⟩ := put_at h1
      obtain ⟨r1, r2, r3⟩ := put_at h2
      intro B hB
      obtain ⟨t1, a1, b1⟩ := q1 B hB
      obtain ⟨t2, a2, b2⟩ := q2 B hB
      have hij : i ≠ j := fun q => by
        subst q
        rw [p2] at r2
        exact z3 (Option.some.inj r2)
      refine ⟨L2.tPar i j (tCons t1 (tCons t2 tNil)), fun X hX => ?_, fun Y hY _ => snd_sPar (b1 Y hY) (b2 Y hY)⟩
      have lx : X.env.scope.names.lookup x = some .local := loc_at hX z1
      have ly : X.env.scope.names.lookup y = some .local := loc_at hX z2
      exact L2.ps_par hX.calm (by rw [hX.hN]; exact hX.nd) (by rw [hX.hN]; exact p2) (by rw [hX.hN]; exact r2) hij lx ly (L2.pa_cons (a1 X hX) (L2.pa_cons (a2 X hX) L2.pa_nil (star_cons n2)) (star_cons n1)) (sw2 (by unfold Env.blockKind; rw [hX.sc, hX.kind]; rfl) lx ly z3 z4 z5 n1 n2) rfl
    · cases h
  · rename_i es k p e pos _
    split at h
    · cases h
    · rename_i nt
      split at h
      · rename_i pl
        obtain ⟨t, h1, h⟩ := bind_some h
        obtain ⟨g, h2, rfl⟩ := map_some h
        obtain ⟨n1, q1⟩ := sd_tg (ct := ct) h1
        obtain ⟨n2, q2⟩ := sd_D hO h2
        intro B hB
        obtain ⟨gt, a1, b1⟩ := q1 B
        obtain ⟨te, a2, b2⟩ := q2 B hB
        exact ⟨L2.tAsg te gt, fun X hX => L2.ps_asg (a2 X hX) (a1 X hX) (swSole pl) (swNone2 fun vs k p e => nt vs k p e) rfl, fun Y hY _ => snd_sUnp (b2 Y hY) (b1 Y hY)⟩
      · cases h
  · rename_i x xp k sp e pos
    split at h
    · rename_i ok
      rw [Bool.and_eq_true] at ok
      obtain ⟨i, h1, h⟩ := bind_some h
      obtain ⟨fk, h2, h⟩ := bind_some h
      obtain ⟨fe, h3, rfl⟩ := map_some h
      obtain ⟨n2, q2⟩ := sd_P hO h2
      obtain ⟨n3, q3⟩ := sd_D hO h3
      intro B hB
      obtain ⟨tk, a2, b2⟩ := q2 B hB
      obtain ⟨te, a3, b3⟩ := q3 B hB
      refine ⟨L2.tAsg te (L2.gSub (tVar i) tk L2.rSetL), fun X hX => L2.ps_asg (a3 X hX) (L2.pg_sub (pe_slot hX h1 ok.1) (a2 X hX) L2.set_list ?_) (swSole ok.2) (swNone (fun _ _ _ z => by cases z) (fun _ _ z => by cases z)) rfl, fun Y hY _ => snd_sSetIx (b3 Y hY) (b2 Y hY)⟩
      intro v
      cases k <;> first | rfl | (simp [noStar] at n2)
    · cases h
  · rename_i x xp k1 sp k2 sp2 e pos
    split at h
    · rename_i ok
      rw [Bool.and_eq_true, Bool.and_eq_true, Bool.and_eq_true] at ok
      obtain ⟨c1, c2, rfl⟩ := isCon_eq ok.1.2
      obtain ⟨c3, c4, rfl⟩ := isCon_eq ok.2
      obtain ⟨i, h1, h⟩ := bind_some h
      obtain ⟨fe, h3, rfl⟩ := map_some h
      obtain ⟨n3, q3⟩ := sd_D hO h3
      intro B hB
      obtain ⟨te, a3, b3⟩ := q3 B hB
      refine ⟨L2.tAsg te (L2.gSub (tOp (L2.rIx B.K) (tVar i) (tC (.int 1))) (tC (.int 0)) L2.rSetL), fun X hX => ?_, fun Y hY _ => by have := snd_sSetDeal (i := i) (b3 Y hY); rw [hY.K] at this; exact this⟩
      rw [← hX.eK]
      exact L2.ps_asg (a3 X hX) (L2.pg_sub (L2.pe_ix L2.ix_seq (pe_slot hX h1 ok.1.1.1) L2.pe_int (plainIx rfl)) L2.pe_int L2.set_list (fun v => rfl)) (swSole ok.1.1.2) (swNone (fun _ _ _ z => by cases z) (fun _ _ z => by cases z)) rfl
    · cases h
  · -- x op= e
    rename_i x xp op e pos
    obtain ⟨o, h1, h⟩ := bind_some h
    obtain ⟨i, h2, h⟩ := bind_some h
    obtain ⟨g, h3, rfl⟩ := map_some h
    obtain ⟨p1, p2, p3⟩ := put_at h2
    obtain ⟨n3, q3⟩ := sd_P hO h3
    intro B hB
    obtain ⟨te, a3, b3⟩ := q3 B hB
    have key : ∃ r : R2, (∀ X : Cx, L2.PIp X op r) ∧ ∀ Y : Yx, Op2 Y r o := by
      cases op with
      | Add =>
        cases h1
        refine ⟨fun x y H Q => rI0 (fun i j => .int (i + j)) x y H Q ∨ ∃ i j, x = .str i ∧ y = .str j ∧ i.length + j.length ≤ sizeLine ∧ Q (.str (i ++ j)) H, fun X => L2.iop_add.or L2.iop_add_str, fun Y => ?_⟩
        intro ρ FH H σ' σ g v u d e sv Q R hd he eq k
        cases d with
        | int i =>
          cases e with
          | int j =>
            simp only [pyAugAdd, sInt, Option.some.injEq] at eq
            subst eq
            exact .inl ⟨i, j, hd.int, he.int, k _ FH H (resInt _)⟩
          | _ => simp [pyAugAdd] at eq
        | str x =>
          cases e with
          | str y =>
            simp only [pyAugAdd] at eq
            split at eq
            · rename_i hl
              cases eq
              exact .inr ⟨x, y, hd.str, he.str, by rw [sl16]; exact hl, k _ FH H (res0 (.str _))⟩
            · cases eq
          | _ => simp [pyAugAdd] at eq
        | _ => cases e <;> simp [pyAugAdd] at eq
      | Sub =>
        cases h1
        exact ⟨rSub, fun X => L2.iop_sub, fun Y => o2_sub⟩
      | _ => cases h1
    obtain ⟨r, k1, k2⟩ := key
    refine ⟨L2.tAug i te r, fun X hX => ?_, fun Y hY _ => snd_sAug (b3 Y hY) (k2 Y)⟩
    obtain ⟨s1, s2⟩ := hX.sto x p1
    exact L2.ps_aug (by rw [hX.hN]; exact hX.nd) (by rw [hX.hN]; exact p2) s1 (a3 X hX) (k1 X) s2
  · -- append
    rename_i x xp mn ap e cp pos
    split at h
    · rename_i ok
      rw [Bool.and_eq_true, Bool.and_eq_true] at ok
      have em : mn = "append" := by simpa using ok.1.1
      subst em
      obtain ⟨i, h1, h⟩ := bind_some h
      obtain ⟨g, h2, rfl⟩ := map_some h
      obtain ⟨n, q⟩ := sd_D hO h2
      intro B hB
      obtain ⟨te, a1, b1⟩ := q B hB
      refine ⟨L2.tDrop (L2.tBM B.K "list" L2.rAppend (tVar i) (tCons te tNil)), fun X hX => ?_, fun Y hY _ => by have := snd_sApp (i := i) (b1 Y hY); rw [hY.K] at this; exact this⟩
      rw [← hX.eK]
      exact L2.ps_expr (L2.pe_bm PySem.F.plainAttrs_list PySem.F.slot_list_append PySem.F.type_list_append L2.mt_append (pe_slot hX h1 ok.2) (L2.pa_cons (a1 X hX) L2.pa_nil (star_cons n)) rfl (few_ok n) ok.1.2 (star_cons n) rfl) rfl
    · cases h
  · obtain ⟨ft, h1, h⟩ := bind_some h
    obtain ⟨fa, h2, h⟩ := bind_some h
    obtain ⟨fb, h3, rfl⟩ := map_some h
    obtain ⟨_, q1⟩ := hT _ _ _ h1
    have q2 := sd_ss (fun st f h => hF c st f h) h2
    have q3 := sd_ss (fun st f h => hF c st f h) h3
    intro B hB
    obtain ⟨tt, a1, b1⟩ := q1 B hB
    obtain ⟨t2, a2, b2⟩ := q2 B hB
    obtain ⟨t3, a3, b3⟩ := q3 B hB
    exact ⟨L2.tIfS tt t2 t3, fun X hX => L2.ps_if (a1 X hX) (a2 X hX) (a3 X hX), fun Y hY hl => snd_sIf (b1 Y hY) (b2 Y hY hl) (b3 Y hY hl)⟩
  · obtain ⟨it, h1, h⟩ := bind_some h
    obtain ⟨t, h2, h⟩ := bind_some h
    obtain ⟨fb, h3, rfl⟩ := map_some h
    obtain ⟨n1, q1⟩ := sd_I hO h1
    obtain ⟨n2, q2⟩ := sd_tg (ct := ct) h2
    have q3 := sd_ss (fun st f h => hF c st f h) h3
    intro B hB
    obtain ⟨wi, a1, b1⟩ := q1 B hB
    obtain ⟨gt, a2, b2⟩ := q2 B
    obtain ⟨tb, a3, b3⟩ := q3 B hB
    exact ⟨L2.tFor wi gt tb, fun X hX => L2.ps_for hX.pass hX.calm (a1 X hX) (a2 X hX) (a3 X hX) (noFold n1), fun Y hY hl => snd_sFor (b1 Y hY) (b2 Y hY) (b3 Y hY hl)⟩
  · obtain ⟨ft, h1, h⟩ := bind_some h
    obtain ⟨fb, h3, rfl⟩ := map_some h
    obtain ⟨_, q1⟩ := hT _ _ _ h1
    have q3 := sd_ss (fun st f h => hF c st f h) h3
    intro B hB
    obtain ⟨tt, a1, b1⟩ := q1 B hB
    obtain ⟨tb, a3, b3⟩ := q3 B hB
    exact ⟨L2.tWhile tt tb, fun X hX => L2.ps_while hX.pass (a1 X hX) (a3 X hX), fun Y hY hl => snd_sWhile (b1 Y hY) (b3 Y hY hl)⟩
  · cases h
theorem cmpS_ok : ∀ (n : Nat) (c : Ctx) (st : Stmt) (f : Ev Fl), cmpS ct w m n c st = some f → SdS ct c st f
  | 0, c, st, f, h => nomatch h
  | n + 1, c, st, f, h => stepS_ok (fun c st f h => cmpS_ok n c st f h) h
theorem cmpBody_ok {n : Nat} {c : Ctx} {b : List Stmt} {f : Ev Fl} (h : cmpBody ct w m n c b = some f) : SdSs ct c b f := sd_ss (fun st f h => cmpS_ok n c st f h) h
end
end
end FD
/-! FD17: a def, the defs of a text, the law. -/
namespace FD
noncomputable section
open PySem PySem.W PySem.Spec PyProof.Rows
open L2 (Hp HO V upd upd_same upd_ne ne_of_none Rd SqL SqT Vals RelV VK TE TT TA TS TG TGs XK Cx PE PT PW PA PS PSs PG PGs PI Inv OpR UnR CallR R2 rI0 rI tOp tUn tVar tC tCB tCons tNil SlR IxR MtR It TI XK Sp wipe tLc Ends Gl Vis Loc FnOk Room Binds CX0 EP cxOf start Fun FnScope defBody defScope defArgs)
theorem arg_at {K : PySem.W.Frag} {ρ : Rho} {FH : Hp} : ∀ {vs : List V} {as : List SV}, ArgAll K ρ FH vs as → ∀ (i : Nat) (a : SV), as[i]? = some a → ∃ v, vs[i]? = some v ∧ ArgRel K ρ FH v a
  | _, _, .nil, i, a, h => by simp at h
  | _, _, .cons h _, 0, a, e => by
    cases e
    exact ⟨_, rfl, h⟩
  | _, _, .cons _ t, i + 1, a, e => arg_at t i a e
theorem startS_at {n : Nat} {as : List SV} {i : Nat} {sv : SV} (h : (startS n as)[i]? = some (some sv)) : as[i]? = some sv := by
  unfold startS at h
  by_cases q : i < as.length
  · rw [List.getElem?_append_left (by simpa using q), List.getElem?_map] at h
    cases e : as[i]? with
    | none => rw [e] at h; cases h
    | some x => rw [e] at h; cases h; rfl
  · rw [List.getElem?_append_right (by simpa using q), List.getElem?_replicate] at h
    split at h <;> cases h
theorem start_at {N : List Str} {vs : List V} {i : Nat} {v : V} (h : vs[i]? = some v) : (L2.start N vs)[i]? = some (some v) := by
  unfold L2.start
  have q : i < vs.length := by
    cases Nat.lt_or_ge i vs.length with
    | inl q => exact q
    | inr q => rw [List.getElem?_eq_none q] at h; cases h
  rw [List.getElem?_append_left (by simpa using q), List.getElem?_map, h]
  rfl
def y0 (K : PySem.W.Frag) (ρ : Rho) (FH H : Hp) : Yx := ⟨K, ρ, FH, H, fun _ _ _ => False, fun _ => none⟩
theorem rep_start {K : PySem.W.Frag} {ρ : Rho} {FH H : Hp} {N : List Str} {vs : List V} {as : List SV} {g : G} (hs : Sub FH H) (hd : ∀ dl c, ρ = some (dl, c) → DeckOk K FH H dl c g) (ha : ArgAll K ρ FH vs as) :
    Rep (y0 K ρ FH H) ρ FH H (L2.start N vs) (startS N.length as) g := by
  have no : ∀ {i : Nat} {sv : SV}, (startS N.length as)[i]? = some (some sv) → ∃ v, (L2.start N vs)[i]? = some (some v) ∧ ArgRel K ρ FH v sv := fun {i sv} h => by
    obtain ⟨v, h1, h2⟩ := arg_at ha i sv (startS_at h)
    exact ⟨v, start_at h1, h2⟩
  refine ⟨hs, ?_, fun i d h => no h, fun i ds h => ?_, fun i j ds es p h _ _ _ => ?_, fun i r a t h => ?_, fun i h => ?_, hd, Ext.refl, fun x h => h, fun dl c h => .inl h, fun p vs h => nomatch h⟩
  · simp [L2.start, startS, ha.len]
  · obtain ⟨_, _, q⟩ := no h
    exact q.elim
  · obtain ⟨_, _, q⟩ := no h
    exact q.elim
  · obtain ⟨_, _, q⟩ := no h
    exact q.elim
  · obtain ⟨v, h1, dl, c, h2, h3⟩ := no h
    exact ⟨dl, c, h2, by rw [h1, h3]⟩
section
variable {P : Program} {w : World} {K : PySem.W.Frag} {mg : Str → Option Value} {base : Heap}
/-- what a def does -/
def semF (ar n : Nat) (b : Ev Fl) : List SV → G → FOut := fun as g => if as.length = ar then runF n b as g else .stuck
theorem callN_at {w : Nat} {T : List Fn} {k i : Nat} {f : Fn} (h : T[i]? = some f) : callN w T (k + 1) i = semF f.ar f.n (f.body (callN w T k) w) := by
  funext as g
  show (match T[i]? with
    | some f => if as.length = f.ar then runF f.n (f.body (callN w T k) w) as g else .stuck
    | none => .stuck) = _
  rw [h]
  rfl
/-- names in the slots -/
def locB (sc : Scope) (x : Str) : Bool := match sc.names.lookup x with
  | some .local => true
  | some .cell => true
  | _ => false
theorem locB_loc {sc : Scope} {x : Str} (h : locB sc x = true) : Loc sc x := by
  unfold locB at h
  split at h
  · exact .inl (by assumption)
  · exact .inr (by assumption)
  · cases h
theorem fn_ok {ct : CT} {c : Ctx} {x qual : Str} {st : Stmt} {f : Addr} {fd : FuncData} {ps : List Str} {k lim m n ar : Nat} {sem : Ev Fl}
    (F : Fun K x qual st f fd) (S : FnScope c.N ps (defScope st)) (hps : ps.length = ar) (hsc : c.sc = defScope st) (hsto : c.sto.all (locB (defScope st)) = true)
    (hbs : ∀ x ∈ blts, mg x = none)
    (hfns : ∀ x i n, c.fns.lookup x = some (i, n) → (∀ as g, ct i as g ≠ .stuck → as.length = n) ∧ ∃ (fa : Addr) (fd : FuncData) (ps : List Str), mg x = some (.ref fa) ∧ PySem.W.keepIn K (.ref fa) = true ∧ Binds K fd ps [] ∧ FnOk P w K mg base CX0 k fa fd ps (spF K XC0 false n (ct i)))
    (hcs : ∀ x d, c.cs.lookup x = some d → ∃ u v, mg x = some u ∧ RelV v u ∧ Dq K (fun _ => none) v d ∧ ∀ ds, d = .tuple ds → ∃ p o, v = .ref p ∧ K.lookup p = some o ∧ o.cls = .type "tuple" ∧ o.dict = none)
    (hc : cmpBody ct lim m n c (defBody st) = some sem) : FnOk P w K mg base CX0 (k + 1) f fd ps (spF K XC0 c.law ar (semF ar c.N.length sem)) := by
  refine F.ok S (fun vs H Q E h => by rw [spF_len _ _ _ _ h, hps]) fun cdv A outer s H vs Q E hr h => ?_
  have hB : FixOk ⟨P, w, K, mg, base, A.deeper (envOfC qual (defScope st) s.heap.objs.size f cdv)⟩ ct c.fns c.cs :=
    ⟨Nat.lt_of_le_of_lt (by show (A.deeper _).units + 80 ≤ (A.deeper _).units + 16 * k + 200; omega) hr.un, hbs, fun x i n h => by
      obtain ⟨a, fa, fd, ps, b1, b2, b3, b4⟩ := hfns x i n h
      exact ⟨a, fa, fd, k, ps, b1, b2, hr, b3, b4⟩, hcs⟩
  obtain ⟨ts, a1, a2⟩ := cmpBody_ok hc _ hB
  obtain ⟨ρ, FH, as, g, hl, hs, hd, ha, hlen, h⟩ := h
  refine ⟨ts, a1 _ ⟨rfl, rfl, rfl, rfl, rfl, rfl, rfl, S.nd, hsc.symm, by rw [hsc]; exact S.kind, fun y hy => ⟨locB_loc ?_, .inl rfl⟩, rfl, PassesOwn.never⟩, a2 (y0 K ρ FH H) ⟨rfl, fun _ _ _ z => z⟩ hl ρ FH H _ (startS c.N.length as) g _ (rep_start hs hd ha) ?_⟩
  · rw [List.all_eq_true] at hsto
    exact hsto y (List.mem_of_elem_eq_true hy)
  · unfold semF at h
    rw [if_pos hlen] at h
    unfold runF at h
    have dk : ∀ {ρ2 : Rho} {FH2 H2 : Hp} {σ2' σ2 g2}, Rep (y0 K ρ FH H) ρ2 FH2 H2 σ2' σ2 g2 → ∀ dl c, ρ = some (dl, c) → DeckOk K FH2 H2 dl c g2 := fun R dl c e => R.deck dl c (R.rho _ e)
    cases e : sem (startS c.N.length as) g with
    | stuck => rw [e] at h; exact h
    | exc x σ g2 => rw [e] at h; exact h
    | ok fl σ2 g2 =>
      rw [e] at h
      cases fl with
      | nx => exact fun ρ2 FH2 H2 σ2' R S2 => h .non FH2 H2 R.ext R.sub (dk R) .non
      | bk => exact h.elim
      | ct => exact h.elim
      | rt r =>
        cases r with
        | deal => exact h.elim
        | fz d => exact fun ρ2 FH2 H2 σ2' v R S2 q => h v FH2 H2 R.ext R.sub (dk R) q
        | ow ds =>
          intro ρ2 FH2 H2 σ2' v R S2 q
          obtain ⟨p, vs, rfl, q⟩ := q
          exact h _ FH2 H2 R.ext R.sub (dk R) ⟨p, vs, rfl, q.f, q.h, q.a, q.o⟩
        | nd r i t =>
          intro ρ2 FH2 H2 σ2' v R S2 q
          obtain ⟨p, c, vr, vt, rfl, q1, q2, q3, q4, q5, q6, q7, q8, q9, _⟩ := q
          exact h _ FH2 H2 R.ext R.sub (dk R) ⟨p, c, vr, vt, rfl, q1, q2, q3, q4, q5, q6, q7, q8, q9⟩
/-- the defs of a text: each lies behind the top as it is written -/
structure DefOk (K : PySem.W.Frag) (mg : Str → Option Value) (T : List Fn) (fns : List (Str × Nat × Nat)) (cs : List (Str × D)) (lim m n : Nat) (x : Str) (i ar : Nat) : Prop where
  ex : ∃ (fn : Fn) (c : Ctx) (st : Stmt) (f : Addr) (fd : FuncData) (ps : List Str), T[i]? = some fn ∧ fn.ar = ar ∧ fn.n = c.N.length ∧ c.fns = fns ∧ c.cs = cs ∧ c.law = false ∧ Fun K x x st f fd ∧ mg x = some (.ref f) ∧ FnScope c.N ps (defScope st) ∧ ps.length = ar ∧ Binds K fd ps [] ∧ c.sc = defScope st ∧
    c.sto.all (locB (defScope st)) = true ∧ ∀ ct, cmpBody ct lim m n c (defBody st) = some (fn.body ct lim)
theorem tab_ok {T : List Fn} {fns : List (Str × Nat × Nat)} {cs : List (Str × D)} {lim m n : Nat} (hbs : ∀ x ∈ blts, mg x = none)
    (hcs : ∀ x d, cs.lookup x = some d → ∃ u v, mg x = some u ∧ RelV v u ∧ Dq K (fun _ => none) v d ∧ ∀ ds, d = .tuple ds → ∃ p o, v = .ref p ∧ K.lookup p = some o ∧ o.cls = .type "tuple" ∧ o.dict = none)
    (D : ∀ x i ar, fns.lookup x = some (i, ar) → DefOk K mg T fns cs lim m n x i ar) : ∀ (k : Nat) (x : Str) (i ar : Nat), fns.lookup x = some (i, ar) →
      (∀ as g, callN lim T k i as g ≠ .stuck → as.length = ar) ∧ ∃ (fa : Addr) (fd : FuncData) (ps : List Str), mg x = some (.ref fa) ∧ PySem.W.keepIn K (.ref fa) = true ∧ Binds K fd ps [] ∧ FnOk P w K mg base CX0 k fa fd ps (spF K XC0 false ar (callN lim T k i))
  | 0, x, i, ar, h => by
    obtain ⟨fn, c, st, f, fd, ps, h1, h2, h3, h4, h5, hlw, h6, h7, h8, h9, h10, h11, h12, h13⟩ := (D x i ar h).ex
    refine ⟨fun as g z => absurd rfl z, f, fd, ps, h7, h6.kp, h10, ⟨fun vs H Q E q => by rw [spF_len _ _ _ _ q, h9], fun A outer s H args us vs Q E hr e0 hb r q => ?_⟩⟩
    obtain ⟨_, _, _, _, _, _, _, _, _, q⟩ := q
    exact q.elim
  | k + 1, x, i, ar, h => by
    obtain ⟨fn, c, st, f, fd, ps, h1, h2, h3, h4, h5, hlw, h6, h7, h8, h9, h10, h11, h12, h13⟩ := (D x i ar h).ex
    subst h2
    refine ⟨fun as g z => ?_, f, fd, ps, h7, h6.kp, h10, ?_⟩
    · rw [callN_at h1] at z
      unfold semF at z
      split at z
      · assumption
      · exact absurd rfl z
    · rw [callN_at h1]
      have q := fn_ok (P := P) (w := w) (K := K) (mg := mg) (base := base) (ct := callN lim T k) (k := k) h6 h8 h9 h11 h12 hbs (by rw [h4]; exact fun x i n h => tab_ok hbs hcs D k x i n h) (by rw [h5]; exact hcs) (h13 (callN lim T k))
      rw [hlw, ← h3] at q
      exact q
end
/-- the law's own promise -/
theorem sp_law {K : PySem.W.Frag} {sem : List SV → G → FOut} {H : Hp} {a : Addr} {ns : List Int} (hK : ∀ p o, K.lookup p = some o → o.cls ≠ .type "list") (hS : SqL K H a (ns.map V.int)) (g0 : G) (h : ∃ g, sem [.fz (.list (ns.map .int))] g0 = .ok (.fz (.bool true)) g) :
    spF K XC0 true 1 sem [.ref a] H (fun v _ => v = .bl true) fun _ _ _ => False := by
  obtain ⟨g, h⟩ := h
  refine ⟨none, H, [.fz (.list (ns.map .int))], g0, fun _ => rfl, Sub.refl _, fun _ _ z => (nomatch z), .cons ?_ .nil, rfl, ?_⟩
  · rcases hS with q | ⟨o, its, n, q, q2, _⟩
    · refine .lst q ?_
      clear h q hK
      induction ns with
      | nil => exact .nil
      | cons x r ih => exact .cons (.int x) ih
    · exact absurd q2 (hK a o q)
  · rw [h]
    intro v FH2 H2 _ _ _ q
    cases q
    rfl
/-- no list among the written part's objects -/
def noList (K : PySem.W.Frag) : Bool := K.all fun r => match r.2.cls with
  | .type n => n != ("list" : Str)
  | _ => true
theorem mem_lk {α β : Type} [BEq α] [LawfulBEq α] : ∀ {l : List (α × β)} {a : α} {b : β}, l.lookup a = some b → (a, b) ∈ l
  | (k, v) :: l, a, b, h => by
    rw [List.lookup_cons] at h
    split at h
    · rename_i e
      cases h
      rw [eq_of_beq e]
      exact List.mem_cons_self
    · exact List.mem_cons_of_mem _ (mem_lk h)
theorem noList_ok {K : PySem.W.Frag} (h : noList K = true) : ∀ p o, K.lookup p = some o → o.cls ≠ .type "list" := by
  intro p o e z
  have q := mem_lk e
  rw [noList, List.all_eq_true] at h
  have := h _ q
  simp only [z] at this
  exact absurd this (by decide)
end
end FD
/-! FD18: the constants of a text, checked in the written part. -/
namespace FD
noncomputable section
open PySem PySem.W PySem.Spec PyProof.Rows
open L2 (Hp HO V Rd SqL SqT Vals RelV FnOk Binds Fun FnScope defBody defScope)
def CsOk (K : PySem.W.Frag) (mg : Str → Option Value) (x : Str) (d : D) : Prop := ∃ u v, mg x = some u ∧ RelV v u ∧ Dq K (fun _ => none) v d ∧ ∀ ds, d = .tuple ds → ∃ p o, v = .ref p ∧ K.lookup p = some o ∧ o.cls = .type "tuple" ∧ o.dict = none
theorem lookupAll {α : Type} {P : Str → α → Prop} : ∀ {l : List (Str × α)}, (∀ y ∈ l, P y.1 y.2) → ∀ x d, l.lookup x = some d → P x d := fun {l} h x d e => h (x, d) (mem_lk e)
theorem csAll {K : PySem.W.Frag} {mg : Str → Option Value} {cs : List (Str × D)} (h : ∀ y ∈ cs, CsOk K mg y.1 y.2) : ∀ x d, cs.lookup x = some d → CsOk K mg x d := lookupAll (P := CsOk K mg) h
theorem fnsAll {P : Str → Nat → Nat → Prop} {l : List (Str × Nat × Nat)} (h : ∀ y ∈ l, P y.1 y.2.1 y.2.2) : ∀ x i ar, l.lookup x = some (i, ar) → P x i ar := fun x i ar e => h (x, i, ar) (mem_lk e)
/-- does the value u stand for d -/
def isTupT (v : Value) : Bool := match v with
  | .type n => decide (n = "tuple")
  | _ => false
mutual
def chk (K : PySem.W.Frag) (u : Value) : D → Bool
  | .none => match u with
    | .none => true
    | _ => false
  | .bool b => match u with
    | .bool c => c == b
    | _ => false
  | .int i => match u with
    | .int j _ => j == i
    | _ => false
  | .str x => match u with
    | .str y _ => y == x
    | _ => false
  | .tuple ds => match u with
    | .ref p => (match K.lookup p with
      | some ⟨c, none, .seq its _, _⟩ => isTupT c && decide (its.size ≤ 16777216) && chks K its.toList ds
      | _ => false)
    | _ => false
  | _ => false
def chks (K : PySem.W.Frag) (us : List Value) : List D → Bool
  | [] => us.isEmpty
  | d :: ds => match us with
    | [] => false
    | u :: us => chk K u d && chks K us ds
end
mutual
theorem chk_ok {K : PySem.W.Frag} : ∀ (d : D) (u : Value), chk K u d = true → ∃ v, RelV v u ∧ Dq K (fun _ => none) v d ∧ ∀ ds, d = .tuple ds → ∃ p o, v = .ref p ∧ K.lookup p = some o ∧ o.cls = .type "tuple" ∧ o.dict = none
  | .none, u, h => by
    unfold chk at h
    split at h
    · exact ⟨.non, rfl, .non, fun _ z => nomatch z⟩
    · cases h
  | .bool b, u, h => by
    unfold chk at h
    split at h
    · rename_i c
      rw [eq_of_beq h]
      exact ⟨.bl b, rfl, .bl b, fun _ z => nomatch z⟩
    · cases h
  | .int i, u, h => by
    unfold chk at h
    split at h
    · rename_i j t
      rw [eq_of_beq h]
      exact ⟨.int i, ⟨t, rfl⟩, .int i, fun _ z => nomatch z⟩
    · cases h
  | .str x, u, h => by
    unfold chk at h
    split at h
    · rename_i j t
      rw [eq_of_beq h]
      exact ⟨.str x, ⟨t, rfl⟩, .str x, fun _ z => nomatch z⟩
    · cases h
  | .tuple ds, u, h => by
    unfold chk at h
    split at h
    · rename_i p
      split at h
      · rename_i c its n sl e
        rw [Bool.and_eq_true, Bool.and_eq_true] at h
        obtain ⟨⟨h1, h2⟩, h3⟩ := h
        have hc : c = .type "tuple" := by
          unfold isTupT at h1
          split at h1
          · rw [of_decide_eq_true h1]
          · cases h1
        have h2 := of_decide_eq_true h2
        obtain ⟨vs, r, a⟩ := chks_ok ds _ h3
        subst hc
        refine ⟨.ref p, rfl, .tup (.inr ⟨_, its, n, e, rfl, rfl, by rw [sl16]; exact h2, r⟩) a, fun _ _ => ⟨p, _, rfl, e, rfl, rfl⟩⟩
      · cases h
    · cases h
  | .list _, u, h => by unfold chk at h; cases h
  | .dict _, u, h => by unfold chk at h; cases h
theorem chks_ok {K : PySem.W.Frag} : ∀ (ds : List D) (us : List Value), chks K us ds = true → ∃ vs, Vals vs us ∧ DqAll K (fun _ => none) vs ds
  | [], us, h => by
    unfold chks at h
    cases us with
    | nil => exact ⟨[], .nil, .nil⟩
    | cons _ _ => cases h
  | d :: ds, us, h => by
    unfold chks at h
    split at h
    · cases h
    · rw [Bool.and_eq_true] at h
      obtain ⟨v, r1, a1, _⟩ := chk_ok d _ h.1
      obtain ⟨vs, r2, a2⟩ := chks_ok ds _ h.2
      exact ⟨v :: vs, .cons r1 r2, .cons a1 a2⟩
end
theorem csOk_mk {K : PySem.W.Frag} {mg : Str → Option Value} {x : Str} {u : Value} {d : D} (h : mg x = some u) (c : chk K u d = true) : CsOk K mg x d := by
  obtain ⟨v, r, a, t⟩ := chk_ok d u c
  exact ⟨u, v, h, r, a, t⟩
end
end FD
/-! FDP: the plain side: the laws' common defs. -/
namespace FD
noncomputable section
open PySem
@[simp] theorem sIf_at (t : Ev Bool) (a b : Ev Fl) (σ : Sl) (g : G) : sIf t a b σ g = (t σ g).bind fun p σ g => if p = true then a σ g else b σ g := rfl
theorem mulOk64 {i j : Int} (h : i.natAbs < 2 ^ 64) (h2 : j.natAbs < 2 ^ 64) : MulOk i j := by
  unfold MulOk
  have a : ∀ n : Nat, n < 2 ^ 64 → n.log2 < 64 := fun n h => by
    by_cases z : n = 0
    · subst z; decide
    · exact (Nat.log2_lt z).mpr h
  have := a _ h
  have := a _ h2
  omega
theorem mulI {i j : Int} (h : i.natAbs < 2 ^ 64) (h2 : j.natAbs < 2 ^ 64) : pyMul (.int i) (.int j) = some (.fz (.int (i * j))) := if_pos (mulOk64 h h2)
theorem modI {i j : Int} (h : 0 < j) : pyMod (.int i) (.int j) = some (.fz (.int (i % j))) := by
  show (if j = 0 then none else sInt (i.fmod j)) = _
  rw [if_neg (by omega), Int.fmod_eq_emod_of_nonneg _ (by omega)]
  rfl
theorem divI {i j : Int} (h : 0 < j) (h2 : j < 2 ^ 64) : pyFloorDiv (.int i) (.int j) = some (.fz (.int (i / j))) := by
  refine if_pos ⟨h, ?_⟩
  have : j.natAbs < 2 ^ 64 := by omega
  have q := (Nat.log2_lt (n := j.natAbs) (k := 64) (by omega)).mpr this
  omega
@[simp] theorem addI (i j : Int) : pyAdd (.int i) (.int j) = some (.fz (.int (i + j))) := rfl
@[simp] theorem lenL (xs : List D) : pyLen (.list xs) = some (.fz (.int xs.length)) := rfl
@[simp] theorem lenU (xs : List D) : pyLen (.tuple xs) = some (.fz (.int xs.length)) := rfl
@[simp] theorem ltI (i j : Int) : pyLt (.int i) (.int j) = some (decide (i < j)) := rfl
@[simp] theorem leI (i j : Int) : pyLe (.int i) (.int j) = some (decide (i ≤ j)) := rfl
@[simp] theorem gtI (i j : Int) : pyGt (.int i) (.int j) = some (decide (j < i)) := rfl
@[simp] theorem geI (i j : Int) : pyGe (.int i) (.int j) = some (decide (j ≤ i)) := rfl
theorem ixNat {α : Type} {xs : List α} {i : Int} {n : Nat} {x : α} (hi : i = n) (h : xs[n]? = some x) : atI xs i = some x := by
  subst hi
  have q : n < xs.length := by
    cases Nat.lt_or_ge n xs.length with
    | inl q => exact q
    | inr q => rw [List.getElem?_eq_none q] at h; cases h
  unfold atI ixN
  rw [if_pos (by omega), if_pos (by omega)]
  exact h
theorem ixL {xs : List D} {i : Int} {n : Nat} {x : D} (hi : i = n) (h : xs[n]? = some x) : pyIx (.list xs) (.int i) = some (.fz x) := by
  show (atI xs i).map SV.fz = _
  rw [ixNat hi h]; rfl
theorem ixU {xs : List D} {i : Int} {n : Nat} {x : D} (hi : i = n) (h : xs[n]? = some x) : pyIx (.tuple xs) (.int i) = some (.fz x) := by
  show (atI xs i).map SV.fz = _
  rw [ixNat hi h]; rfl
theorem rng1N {n : Nat} (h : n < 2 ^ 60) : rng1 (.int n) = some (rngD 0 n) := by
  have q : Rg n := ⟨by omega, by omega⟩
  simp [rng1, q]
/-! ### the deck -/
/-- a deck: its row's numbers, its total; at most c drawn -/
structure Dk (c : Nat) (g : G) : Prop where
  row : ∃ ns : List Int, g.row = .list (ns.map .int)
  tot : ∃ t : Int, g.tot = .int t ∧ t.natAbs < 2 ^ 63
  lo : 0 ≤ g.at_
  hi : g.at_ ≤ c
theorem Dk.mono {c d : Nat} {g : G} (h : Dk c g) (e : c ≤ d) : Dk d g := ⟨h.row, h.tot, h.lo, by have := h.hi; omega⟩
def b_law_take (ct : CT) (w : Nat) : Ev Fl :=
  (sSeq (sAsg 2 (cV10 0))
  (sSeq (sSetDeal 0 (cD (c2 pyAdd (cVP 2) (cD (cK (.int 1))))))
  (sSeq (sIf (cCmp pyLt (cVP 2) (cD (c1 pyLen (cD (cVIx 0 (cD (cK (.int 0))))))))
    (sRet (c2 pyMod (cD (c2 pyIx (cD (cVIx 0 (cD (cK (.int 0))))) (cVP 2))) (cVP 1)))
    sPass)
  (sSeq (sAsg 3 (c2 pyMod (cD (c2 pyAdd (cD (c2 pyAdd (cD (c2 pyMul (cVP 2) (cD (cK (.int 7919))))) (cD (c2 pyMul (cD (cVIx 0 (cD (cK (.int 2))))) (cD (cK (.int 31))))))) (cD (cK (.int 17))))) (cD (cK (.int 2147483629)))))
  (sSeq (sFor (iR1 (cD (cK (.int 3)))) (gNm 4)
    (sAsg 3 (c2 pyMod (cD (c2 pyAdd (cD (c2 pyAdd (cD (c2 pyMul (cVP 3) (cVP 3))) (cD (c2 pyMul (cD (cK (.int 48271))) (cVP 2))))) (cD (cK (.int 12345))))) (cD (cK (.int 2147483647))))))
  (sRet (c2 pyMod (cD (c2 pyFloorDiv (cVP 3) (cD (cK (.int 7))))) (cVP 1))))))))
section
variable {w k i : Nat} {T : List Fn}
theorem take_ok (hT : T[i]? = some ⟨2, 5, b_law_take⟩) {c : Nat} {g : G} (h : Dk c g) (hc : c < 2 ^ 40) {m : Int} (hm : 0 < m) :
    ∃ v g', callN w T (k + 1) i [.deal, .fz (.int m)] g = .ok (.fz (.int v)) g' ∧ 0 ≤ v ∧ v < m ∧ Dk (c + 1) g' := by
  obtain ⟨row, tot, at_⟩ := g
  obtain ⟨⟨ns, h1⟩, ⟨t, h2, h3⟩, h4, h5⟩ := h
  simp only at h1 h2 h4 h5
  subst h1 h2
  rw [callN_at hT]
  by_cases q : at_ < ns.length
  · obtain ⟨x, hx⟩ : ∃ x, ns[at_.toNat]? = some x := ⟨_, List.getElem?_eq_getElem (by omega)⟩
    have e : (ns.map PyData.int)[at_.toNat]? = some (.int x) := by rw [List.getElem?_map, hx]; rfl
    refine ⟨x % m, ⟨.list (ns.map .int), .int t, at_ + 1⟩, ?_, Int.emod_nonneg _ (by omega), Int.emod_lt_of_pos _ hm, ⟨⟨ns, rfl⟩, ⟨t, rfl, h3⟩, by simp only; omega, by simp only; omega⟩⟩
    have e2 := ixL (i := at_) (n := at_.toNat) (by omega) e
    simp [semF, runF, b_law_take, q, e2, modI hm]
  · have bd : at_.natAbs < 2 ^ 64 := by omega
    have loop : ∀ (xs : List D) (y : Int), 0 ≤ y → y < 2 ^ 31 → ∃ y' : Int, 0 ≤ y' ∧ forL (gNm 4)
        (sAsg 3 (c2 pyMod (cD (c2 pyAdd (cD (c2 pyAdd (cD (c2 pyMul (cVP 3) (cVP 3))) (cD (c2 pyMul (cD (cK (.int 48271))) (cVP 2))))) (cD (cK (.int 12345))))) (cD (cK (.int 2147483647))))) xs
        [some .deal, some (.fz (.int m)), some (.fz (.int at_)), some (.fz (.int y)), none] ⟨.list (ns.map .int), .int t, at_ + 1⟩ = .ok .nx [some .deal, some (.fz (.int m)), some (.fz (.int at_)), some (.fz (.int y')), none] ⟨.list (ns.map .int), .int t, at_ + 1⟩ := by
      intro xs
      induction xs with
      | nil => exact fun y h _ => ⟨y, h, rfl⟩
      | cons x r ih =>
        intro y h1 h2
        have p1 := mulI (i := y) (j := y) (by omega) (by omega)
        have p2 := mulI (i := 48271) (j := at_) (by omega) (by omega)
        have p3 : ∀ z, pyMod (.int z) (.int 2147483647) = _ := fun z => modI (i := z) (j := 2147483647) (by omega)
        have b1 := Int.emod_lt_of_pos (y * y + 48271 * at_ + 12345) (b := 2147483647) (by decide)
        have b2 := Int.emod_nonneg (y * y + 48271 * at_ + 12345) (b := 2147483647) (by decide)
        obtain ⟨y', q1, q2⟩ := ih _ b2 (by omega)
        refine ⟨y', q1, ?_⟩
        rw [← q2]
        simp [forL, p1, p2, p3]
    have p1 := mulI (i := at_) (j := 7919) (by omega) (by omega)
    have p2 := mulI (i := t) (j := 31) (by omega) (by omega)
    have p3 : ∀ z, pyMod (.int z) (.int 2147483629) = _ := fun z => modI (i := z) (j := 2147483629) (by omega)
    have p4 : ∀ z, pyFloorDiv (.int z) (.int 7) = _ := fun z => divI (i := z) (j := 7) (by omega) (by omega)
    have p5 : ∀ z, pyMod (.int z) (.int m) = _ := fun z => modI (i := z) hm
    have b1 := Int.emod_lt_of_pos (at_ * 7919 + t * 31 + 17) (b := 2147483629) (by decide)
    have b2 := Int.emod_nonneg (at_ * 7919 + t * 31 + 17) (b := 2147483629) (by decide)
    obtain ⟨y', q1, q2⟩ := loop (rngD 0 3) _ b2 (by omega)
    have r : rng1 (.int 3) = some (rngD 0 3) := rng1N (n := 3) (by decide)
    refine ⟨y' / 7 % m, ⟨.list (ns.map .int), .int t, at_ + 1⟩, ?_, Int.emod_nonneg _ (by omega), Int.emod_lt_of_pos _ hm, ⟨⟨ns, rfl⟩, ⟨t, rfl, h3⟩, by simp only; omega, by simp only; omega⟩⟩
    simp [semF, runF, b_law_take, q, p1, p2, p3, r, q2, p4, p5]
end
end
end FD
/-! FDP2: the plain side: _law_deal. -/
namespace FD
noncomputable section
open PySem
def b_law_deal (ct : CT) (w : Nat) : Ev Fl :=
  (sSeq (sAsg 1 (cLst cNil))
  (sSeq (sFor (iR1 (cD (c2 pyMin2 (cD (c1 pyLen (cVP 0))) (cD (cK (.int 63)))))) (gNm 2)
    (sSeq (sAsg 3 (c1 pyAbs (cD (c1 pyInt (cD (cVIx 0 (cVP 2)))))))
    (sIf (cCmp pyGe (cVP 3) (cD (c2 pyPow (cD (cK (.int 10))) (cD (cK (.int 18))))))
      (sFor (iR1 (cD (cK (.int 40)))) (gNm 4)
        (sIf (cCmp pyGt (cVP 3) (cD (cK (.int 0))))
          (sSeq (sApp 1 (cD (c2 pyMod (cVP 3) (cD (cK (.int 1009))))))
          (sAsg 3 (c2 pyFloorDiv (cVP 3) (cD (cK (.int 1009))))))
          sPass))
      (sSeq (sAsg 3 (c2 pyAdd (cD (c2 pyAdd (cD (c2 pyMul (cD (c2 pyMod (cVP 3) (cD (cK (.int 2147483629))))) (cD (cK (.int 48271))))) (cD (c2 pyMul (cVP 2) (cD (cK (.int 69621))))))) (cD (cK (.int 11)))))
      (sFor (iR1 (cD (cK (.int 5)))) (gNm 4)
        (sSeq (sAsg 3 (c2 pyMod (cD (c2 pyAdd (cD (c2 pyAdd (cD (c2 pyMul (cVP 3) (cD (cK (.int 16807))))) (cD (cK (.int 12345))))) (cVP 4))) (cD (cK (.int 2147483647)))))
        (sApp 1 (cD (c2 pyMod (cD (c2 pyFloorDiv (cVP 3) (cD (cK (.int 7))))) (cD (cK (.int 1009))))))))))))
  (sSeq (sAsg 5 (c2 pyAdd (cD (c1 pySum (cVP 1))) (cD (c1 pyLen (cVP 0)))))
  (sRetDeal (cD (cVE 1)) (cD (cK (.int 0))) (cD (cVE 5))))))
def RowOk (R : List Int) : Prop := ∀ x ∈ R, 0 ≤ x ∧ x < 1009
theorem RowOk.snoc {R : List Int} (h : RowOk R) (y : Int) : RowOk (R ++ [y % 1009]) := by
  intro x hx
  rcases List.mem_append.mp hx with q | q
  · exact h x q
  · rw [List.mem_singleton.mp q]
    exact ⟨Int.emod_nonneg _ (by decide), Int.emod_lt_of_pos _ (by decide)⟩
theorem RowOk.sum : ∀ {R : List Int}, RowOk R → 0 ≤ R.sum ∧ R.sum ≤ 1009 * R.length
  | [], _ => by simp
  | x :: R, h => by
    have := RowOk.sum (R := R) fun y hy => h y (List.mem_cons_of_mem _ hy)
    have := h x List.mem_cons_self
    rw [List.sum_cons, List.length_cons]
    omega
theorem intsOf_map : ∀ ns : List Int, intsOf (ns.map .int) = some ns
  | [] => rfl
  | x :: r => by show (intsOf (r.map .int)).map _ = _; rw [intsOf_map r]; rfl
theorem sumL (ns : List Int) : pySum (.list (ns.map .int)) = some (.fz (.int ns.sum)) := by
  show (intsOf _).map _ = _
  rw [intsOf_map]; rfl
theorem rngD_mem {n : Nat} {x : D} (h : x ∈ rngD 0 n) : ∃ j : Nat, x = .int j ∧ j < n := by
  unfold rngD at h
  rw [List.mem_map] at h
  obtain ⟨j, h1, rfl⟩ := h
  rw [List.mem_range] at h1
  exact ⟨j, by simp, by omega⟩
theorem rngD_len (n : Nat) : (rngD 0 n).length = n := by simp [rngD]
theorem pow10_18 : pyPow (.int 10) (.int 18) = some (.fz (.int 1000000000000000000)) := if_pos ⟨by decide, by decide, by decide⟩
section
variable {w k i : Nat} {T : List Fn} {S : D} {kk : Option SV} {g : G}
theorem deal_in1 : ∀ (xs : List D) (R : List Int) (c : Int), RowOk R → R.length + xs.length ≤ 100000 → ∃ R' c', RowOk R' ∧ R'.length ≤ R.length + xs.length ∧
    forL (gNm 4) (sIf (cCmp pyGt (cVP 3) (cD (cK (.int 0))))
          (sSeq (sApp 1 (cD (c2 pyMod (cVP 3) (cD (cK (.int 1009))))))
          (sAsg 3 (c2 pyFloorDiv (cVP 3) (cD (cK (.int 1009))))))
          sPass) xs [some (.fz S), some (.ow (R.map .int)), kk, some (.fz (.int c)), none, none] g = .ok .nx [some (.fz S), some (.ow (R'.map .int)), kk, some (.fz (.int c')), none, none] g
  | [], R, c, h, _ => ⟨R, c, h, by simp, rfl⟩
  | x :: r, R, c, h, hl => by
    rw [List.length_cons] at hl ⊢
    by_cases q : 0 < c
    · obtain ⟨R', c', h1, h2, h3⟩ := deal_in1 r (R ++ [c % 1009]) (c / 1009) (h.snoc c) (by rw [List.length_append]; simp only [List.length_cons, List.length_nil]; omega)
      rw [List.length_append] at h2
      simp only [List.length_cons, List.length_nil] at h2
      refine ⟨R', c', h1, by omega, ?_⟩
      rw [← h3]
      have p1 := modI (i := c) (j := 1009) (by omega)
      have p2 := divI (i := c) (j := 1009) (by omega) (by omega)
      have p3 : R.length < 16777216 := by omega
      cases kk <;> simp [forL, q, p1, p2, p3]
    · obtain ⟨R', c', h1, h2, h3⟩ := deal_in1 r R c h (by omega)
      refine ⟨R', c', h1, by omega, ?_⟩
      rw [← h3]
      cases kk <;> simp [forL, q]
theorem deal_in2 : ∀ (xs : List D) (R : List Int) (c : Int), (∀ x ∈ xs, ∃ j : Nat, x = .int j) → RowOk R → c.natAbs < 2 ^ 60 → R.length + xs.length ≤ 100000 → ∃ R' c', RowOk R' ∧ R'.length ≤ R.length + xs.length ∧
    forL (gNm 4) (sSeq (sAsg 3 (c2 pyMod (cD (c2 pyAdd (cD (c2 pyAdd (cD (c2 pyMul (cVP 3) (cD (cK (.int 16807))))) (cD (cK (.int 12345))))) (cVP 4))) (cD (cK (.int 2147483647)))))
        (sApp 1 (cD (c2 pyMod (cD (c2 pyFloorDiv (cVP 3) (cD (cK (.int 7))))) (cD (cK (.int 1009))))))) xs [some (.fz S), some (.ow (R.map .int)), kk, some (.fz (.int c)), none, none] g = .ok .nx [some (.fz S), some (.ow (R'.map .int)), kk, some (.fz (.int c')), none, none] g
  | [], R, c, _, h, _, _ => ⟨R, c, h, by simp, rfl⟩
  | x :: r, R, c, hx, h, hc, hl => by
    rw [List.length_cons] at hl ⊢
    obtain ⟨j, rfl⟩ := hx x List.mem_cons_self
    have b1 := Int.emod_lt_of_pos (c * 16807 + 12345 + j) (b := 2147483647) (by decide)
    have b2 := Int.emod_nonneg (c * 16807 + 12345 + j) (b := 2147483647) (by decide)
    obtain ⟨R', c', h1, h2, h3⟩ := deal_in2 r (R ++ [(c * 16807 + 12345 + j) % 2147483647 / 7 % 1009]) ((c * 16807 + 12345 + j) % 2147483647) (fun y hy => hx y (List.mem_cons_of_mem _ hy)) (h.snoc _) (by omega) (by rw [List.length_append]; simp only [List.length_cons, List.length_nil]; omega)
    rw [List.length_append] at h2
    simp only [List.length_cons, List.length_nil] at h2
    refine ⟨R', c', h1, by omega, ?_⟩
    rw [← h3]
    have p1 := mulI (i := c) (j := 16807) (by omega) (by omega)
    have p2 : ∀ z, pyMod (.int z) (.int 2147483647) = _ := fun z => modI (i := z) (j := 2147483647) (by omega)
    have p3 : ∀ z, pyFloorDiv (.int z) (.int 7) = _ := fun z => divI (i := z) (j := 7) (by omega) (by omega)
    have p4 : ∀ z, pyMod (.int z) (.int 1009) = _ := fun z => modI (i := z) (j := 1009) (by omega)
    have p5 : R.length < 16777216 := by omega
    cases kk <;> simp [forL, p1, p2, p3, p4, p5]
theorem deal_out {ns : List Int} (hn : ns.length ≤ 63) : ∀ (xs : List D) (R : List Int), (∀ x ∈ xs, ∃ j : Nat, x = .int j ∧ j < ns.length) → RowOk R → R.length + 40 * xs.length ≤ 10000 → ∃ R', RowOk R' ∧ R'.length ≤ R.length + 40 * xs.length ∧
    forL (gNm 2) (sSeq (sAsg 3 (c1 pyAbs (cD (c1 pyInt (cD (cVIx 0 (cVP 2)))))))
    (sIf (cCmp pyGe (cVP 3) (cD (c2 pyPow (cD (cK (.int 10))) (cD (cK (.int 18))))))
      (sFor (iR1 (cD (cK (.int 40)))) (gNm 4)
        (sIf (cCmp pyGt (cVP 3) (cD (cK (.int 0))))
          (sSeq (sApp 1 (cD (c2 pyMod (cVP 3) (cD (cK (.int 1009))))))
          (sAsg 3 (c2 pyFloorDiv (cVP 3) (cD (cK (.int 1009))))))
          sPass))
      (sSeq (sAsg 3 (c2 pyAdd (cD (c2 pyAdd (cD (c2 pyMul (cD (c2 pyMod (cVP 3) (cD (cK (.int 2147483629))))) (cD (cK (.int 48271))))) (cD (c2 pyMul (cVP 2) (cD (cK (.int 69621))))))) (cD (cK (.int 11)))))
      (sFor (iR1 (cD (cK (.int 5)))) (gNm 4)
        (sSeq (sAsg 3 (c2 pyMod (cD (c2 pyAdd (cD (c2 pyAdd (cD (c2 pyMul (cVP 3) (cD (cK (.int 16807))))) (cD (cK (.int 12345))))) (cVP 4))) (cD (cK (.int 2147483647)))))
        (sApp 1 (cD (c2 pyMod (cD (c2 pyFloorDiv (cVP 3) (cD (cK (.int 7))))) (cD (cK (.int 1009))))))))))) xs [some (.fz (.list (ns.map .int))), some (.ow (R.map .int)), none, none, none, none] g = .ok .nx [some (.fz (.list (ns.map .int))), some (.ow (R'.map .int)), none, none, none, none] g
  | [], R, _, h, _ => ⟨R, h, by simp, rfl⟩
  | x :: r, R, hx, h, hl => by
    rw [List.length_cons] at hl ⊢
    obtain ⟨j, rfl, hj⟩ := hx x List.mem_cons_self
    obtain ⟨z, hz⟩ : ∃ z, ns[j]? = some z := ⟨_, List.getElem?_eq_getElem hj⟩
    have e : (ns.map PyData.int)[j]? = some (.int z) := by rw [List.getElem?_map, hz]; rfl
    have e2 := ixL (i := (j : Int)) (n := j) rfl e
    have pw : pyPow (.int 10) (.int 18) = some (.fz (.int 1000000000000000000)) := pow10_18
    obtain ⟨a, ha⟩ : ∃ a, (if z < 0 then -z else z) = a := ⟨_, rfl⟩
    have e3 : pyAbs (.int z) = some (.fz (.int a)) := by rw [← ha]; rfl
    have e4 : pyInt (.int z) = some (.fz (.int z)) := rfl
    by_cases q : 1000000000000000000 ≤ a
    · obtain ⟨R1, c1', h1, h2, h3⟩ := deal_in1 (S := .list (ns.map .int)) (kk := some (.fz (.int j))) (g := g) (rngD 0 40) R a h (by rw [show (rngD 0 40).length = 40 from rfl]; omega)
      rw [show (rngD 0 40).length = 40 from rfl] at h2
      obtain ⟨R', k1, k2, k3⟩ := deal_out hn r R1 (fun y hy => hx y (List.mem_cons_of_mem _ hy)) h1 (by omega)
      refine ⟨R', k1, by omega, ?_⟩
      rw [← k3]
      have r40 : rng1 (.int 40) = some (rngD 0 40) := rng1N (n := 40) (by decide)
      simp [forL, e2, e3, e4, pw, q, r40, h3]
    · have b1 := Int.emod_lt_of_pos a (b := 2147483629) (by decide)
      have b2 := Int.emod_nonneg a (b := 2147483629) (by decide)
      have hj2 : j < 63 := by omega
      obtain ⟨R1, c1', h1, h2, h3⟩ := deal_in2 (S := .list (ns.map .int)) (kk := some (.fz (.int j))) (g := g) (rngD 0 5) R (a % 2147483629 * 48271 + j * 69621 + 11) (fun y hy => by
        obtain ⟨j, e, _⟩ := rngD_mem (n := 5) hy
        exact ⟨j, e⟩) h (by omega) (by rw [show (rngD 0 5).length = 5 from rfl]; omega)
      rw [show (rngD 0 5).length = 5 from rfl] at h2
      obtain ⟨R', k1, k2, k3⟩ := deal_out hn r R1 (fun y hy => hx y (List.mem_cons_of_mem _ hy)) h1 (by omega)
      refine ⟨R', k1, by omega, ?_⟩
      rw [← k3]
      have r5 : rng1 (.int 5) = some (rngD 0 5) := rng1N (n := 5) (by decide)
      have p1 := mulI (i := a % 2147483629) (j := 48271) (by omega) (by omega)
      have p2 := mulI (i := (j : Int)) (j := 69621) (by omega) (by omega)
      have p3 := modI (i := a) (j := 2147483629) (by omega)
      simp [forL, e2, e3, e4, pw, q, p1, p2, p3, r5, h3]
theorem deal_ok (hT : T[i]? = some ⟨1, 6, b_law_deal⟩) {ns : List Int} (hn : ns.length ≤ 63) : ∃ r t, callN w T (k + 1) i [.fz (.list (ns.map .int))] g = .ok (.nd r 0 t) g ∧ Dk 0 ⟨r, t, 0⟩ := by
  obtain ⟨R, h1, h2, h3⟩ := deal_out (g := g) hn (rngD 0 ns.length) [] (fun x hx => rngD_mem hx) (fun x hx => absurd hx (by simp)) (by rw [rngD_len]; simp only [List.length_nil]; omega)
  rw [rngD_len, List.length_nil] at h2
  have h4 := h1.sum
  refine ⟨.list (R.map .int), .int (R.sum + ns.length), ?_, ⟨⟨R, rfl⟩, ⟨_, rfl, by omega⟩, by simp, by simp⟩⟩
  rw [callN_at hT]
  have m : pyMin2 (.int ns.length) (.int 63) = some (.fz (.int ns.length)) := by
    show sInt (if (63 : Int) < ns.length then 63 else ns.length) = _
    rw [if_neg (by omega)]; rfl
  have r := rng1N (n := ns.length) (by omega)
  rw [List.map_nil] at h3
  simp [semF, runF, b_law_deal, m, r, h3, sumL]
end
end
end FD
/-! FDP3: the plain side: _law_same, _law_bool. -/
namespace FD
noncomputable section
open PySem
def b_law_same (ct : CT) (w : Nat) : Ev Fl :=
  (sSeq (sIf (cOr (cIsI .tuple (cVP 1)) (cIsI .list (cVP 1)))
    (sSeq (sIf (cOr (cAnd (cIsI .tuple (cVP 1)) (cNot (cIsI .tuple (cVP 0)))) (cAnd (cIsI .list (cVP 1)) (cNot (cIsI .list (cVP 0)))))
      (sRet (cK (.bool false)))
      sPass)
    (sSeq (sIf (cCmp pyNe (cD (c1 pyLen (cVP 0))) (cD (c1 pyLen (cVP 1))))
      (sRet (cK (.bool false)))
      sPass)
    (sSeq (sFor (iR1 (cD (c1 pyLen (cVP 1)))) (gNm 2)
      (sIf (cNot (cTru (cD (cCall ct 2 (cACons (cVIx 0 (cVP 2)) (cACons (cVIx 1 (cVP 2)) cANil))))))
        (sRet (cK (.bool false)))
        sPass))
    (sRet (cK (.bool true))))))
    sPass)
  (sSeq (sIf (cOr (cIsI .bool (cVP 0)) (cIsI .bool (cVP 1)))
    (sRet (cB (cAnd (cIsI .bool (cVP 0)) (cAnd (cIsI .bool (cVP 1)) (cCmp pyEq (cVP 0) (cVP 1))))))
    sPass)
  (sSeq (sIf (cIsI .int (cVP 1))
    (sRet (cB (cAnd (cIsI .int (cVP 0)) (cCmp pyEq (cVP 0) (cVP 1)))))
    sPass)
  (sSeq (sIf (cIsI .str (cVP 1))
    (sRet (cB (cAnd (cIsI .str (cVP 0)) (cCmp pyEq (cVP 0) (cVP 1)))))
    sPass)
  (sRet (cB (cAnd (cCmp pyIs (cVP 0) (cD (cK .none))) (cCmp pyIs (cVP 1) (cD (cK .none))))))))))
def b_law_bool (ct : CT) (w : Nat) : Ev Fl :=
  (sRet (cB (cAnd (cIsI .bool (cVP 0)) (cCmp pyEq (cVP 0) (cVP 1)))))
@[simp] theorem eqII (i j : Int) : pyEq (.int i) (.int j) = some (decide (i = j)) := by
  show some (i == j) = _
  rw [Option.some.injEq]
  exact Bool.eq_iff_iff.mpr (by simp)
@[simp] theorem neII (i j : Int) : pyNe (.int i) (.int j) = some (!decide (i = j)) := by
  show some (!(i == j)) = _
  rw [Option.some.injEq]
  exact Bool.eq_iff_iff.mpr (by simp)
@[simp] theorem eqBB (i j : Bool) : pyEq (.bool i) (.bool j) = some (i == j) := rfl
@[simp] theorem eqSS (i j : Str) : pyEq (.str i) (.str j) = some (i == j) := rfl
@[simp] theorem neSS (i j : Str) : pyNe (.str i) (.str j) = some (!(i == j)) := rfl
/-- data of a depth, of a size that the model lets pass -/
def Sm : Nat → D → Prop
  | _, .none => True
  | _, .bool _ => True
  | _, .int _ => True
  | _, .str _ => True
  | n + 1, .list ds => ds.length < 2 ^ 60 ∧ ∀ d ∈ ds, Sm n d
  | n + 1, .tuple ds => ds.length < 2 ^ 60 ∧ ∀ d ∈ ds, Sm n d
  | _, _ => False
section
variable {w : Nat} {T : List Fn}
theorem same_loop (ct : CT) {g : G} {s : D} {ds : List D} (hs : s = .list ds ∨ s = .tuple ds) (hc : ∀ d ∈ ds, ct 2 [.fz d, .fz d] g = .ok (.fz (.bool true)) g) : ∀ xs : List D, (∀ x ∈ xs, ∃ j : Nat, x = .int j ∧ j < ds.length) →
    forL (gNm 2) (sIf (cNot (cTru (cD (cCall ct 2 (cACons (cVIx 0 (cVP 2)) (cACons (cVIx 1 (cVP 2)) cANil))))))
        (sRet (cK (.bool false)))
        sPass) xs [some (.fz s), some (.fz s), none] g = .ok .nx [some (.fz s), some (.fz s), none] g
  | [], _ => rfl
  | x :: r, h => by
    obtain ⟨j, rfl, hj⟩ := h x List.mem_cons_self
    have ih := same_loop ct hs hc r fun y hy => h y (List.mem_cons_of_mem _ hy)
    obtain ⟨z, hz⟩ : ∃ z, ds[j]? = some z := ⟨_, List.getElem?_eq_getElem hj⟩
    have e1 := ixL (i := (j : Int)) (n := j) rfl hz
    have e2 := ixU (i := (j : Int)) (n := j) rfl hz
    have e3 := hc z (List.mem_of_getElem? hz)
    rcases hs with rfl | rfl <;> simp [forL, e1, e2, e3, pyTruth, ih]
theorem same_refl (hT : T[2]? = some ⟨2, 3, b_law_same⟩) {g : G} : ∀ (n : Nat) (d : D), Sm n d → ∀ k, n ≤ k → callN w T (k + 1) 2 [.fz d, .fz d] g = .ok (.fz (.bool true)) g := by
  intro n
  induction n with
  | zero =>
    intro d hd k hk
    rw [callN_at hT]
    cases d with
    | none => simp [semF, runF, b_law_same, pyIsI, pyIs]
    | bool b => simp [semF, runF, b_law_same, pyIsI]
    | int b => simp [semF, runF, b_law_same, pyIsI]
    | str b => simp [semF, runF, b_law_same, pyIsI]
    | list ds => exact absurd hd (by simp [Sm])
    | tuple ds => exact absurd hd (by simp [Sm])
    | dict ds => exact absurd hd (by simp [Sm])
  | succ n ih =>
    intro d hd k hk
    obtain ⟨k, rfl⟩ : ∃ j, k = j + 1 := ⟨k - 1, by omega⟩
    rw [callN_at hT]
    cases d with
    | none => simp [semF, runF, b_law_same, pyIsI, pyIs]
    | bool b => simp [semF, runF, b_law_same, pyIsI]
    | int b => simp [semF, runF, b_law_same, pyIsI]
    | str b => simp [semF, runF, b_law_same, pyIsI]
    | list ds =>
      have h : ds.length < 2 ^ 60 ∧ ∀ d ∈ ds, Sm n d := by simpa [Sm] using hd
      have lp := same_loop (callN w T (k + 1)) (g := g) (s := .list ds) (.inl rfl) (fun d hd => ih d (h.2 d hd) k (by omega)) (rngD 0 ds.length) fun x hx => rngD_mem hx
      have r := rng1N h.1
      simp [semF, runF, b_law_same, pyIsI, r, lp]
    | tuple ds =>
      have h : ds.length < 2 ^ 60 ∧ ∀ d ∈ ds, Sm n d := by simpa [Sm] using hd
      have lp := same_loop (callN w T (k + 1)) (g := g) (s := .tuple ds) (.inr rfl) (fun d hd => ih d (h.2 d hd) k (by omega)) (rngD 0 ds.length) fun x hx => rngD_mem hx
      have r := rng1N h.1
      simp [semF, runF, b_law_same, pyIsI, r, lp]
    | dict ds => exact absurd hd (by simp [Sm])
theorem bool_ok {k i : Nat} (hT : T[i]? = some ⟨2, 2, b_law_bool⟩) {g : G} (a b : Bool) : callN w T (k + 1) i [.fz (.bool a), .fz (.bool b)] g = .ok (.fz (.bool (a == b))) g := by
  rw [callN_at hT]
  simp [semF, runF, b_law_bool, pyIsI]
end
end
end FD
/-! FDP4: the plain side: places and cuts. -/
namespace FD
noncomputable section
open PySem
theorem atNeg {α : Type} {xs : List α} {i : Int} {m : Nat} {x : α} (hi : i = -(m : Int)) (h1 : 1 ≤ m) (hm : m ≤ xs.length) (h : xs[xs.length - m]? = some x) : atI xs i = some x := by
  subst hi
  unfold atI ixN
  rw [if_neg (by omega), if_pos (by omega)]
  show xs[(-(m : Int) + xs.length).toNat]? = _
  rw [show (-(m : Int) + xs.length).toNat = xs.length - m by omega]
  exact h
theorem ixUn {xs : List D} {i : Int} {m : Nat} {x : D} (hi : i = -(m : Int)) (h1 : 1 ≤ m) (hm : m ≤ xs.length) (h : xs[xs.length - m]? = some x) : pyIx (.tuple xs) (.int i) = some (.fz x) := by
  show (atI xs i).map SV.fz = _
  rw [atNeg hi h1 hm h]; rfl
theorem ixLn {xs : List D} {i : Int} {m : Nat} {x : D} (hi : i = -(m : Int)) (h1 : 1 ≤ m) (hm : m ≤ xs.length) (h : xs[xs.length - m]? = some x) : pyIx (.list xs) (.int i) = some (.fz x) := by
  show (atI xs i).map SV.fz = _
  rw [atNeg hi h1 hm h]; rfl
theorem cutTo {α : Type} {xs : List α} {i : Int} {n : Nat} (hi : i = n) (h : n ≤ xs.length) : cut xs none (some i) = xs.take n := by
  subst hi
  unfold cut sIx
  simp only
  rw [if_neg (by omega)]
  simp only [List.drop_zero, Nat.sub_zero]
  rw [show min ((n : Int).toNat) xs.length = n by omega]
theorem cutNeg {α : Type} {xs : List α} {i : Int} {m : Nat} (hi : i = -(m : Int)) (h1 : 1 ≤ m) : cut xs none (some i) = xs.take (xs.length - m) := by
  subst hi
  unfold cut sIx
  simp only
  rw [if_pos (by omega)]
  simp only [List.drop_zero, Nat.sub_zero]
  rw [show (-(m : Int) + xs.length).toNat = xs.length - m by omega]
theorem cutFrom {α : Type} {xs : List α} {i : Int} {n : Nat} (hi : i = n) : cut xs (some i) none = xs.drop n := by
  subst hi
  unfold cut sIx
  simp only
  rw [if_neg (by omega)]
  by_cases q : n ≤ xs.length
  · rw [show min ((n : Int).toNat) xs.length = n by omega]
    exact List.take_of_length_le (by rw [List.length_drop]; omega)
  · rw [show min ((n : Int).toNat) xs.length = xs.length by omega, List.drop_length, List.drop_of_length_le (by omega)]
    simp
@[simp] theorem sliceL (xs : List D) (lo hi : Option Int) : pySlice (.list xs) lo hi = some (.ow (cut xs lo hi)) := rfl
@[simp] theorem sliceU (xs : List D) (lo hi : Option Int) : pySlice (.tuple xs) lo hi = some (.fz (.tuple (cut xs lo hi))) := rfl
theorem addU {xs ys : List D} (h : xs.length + ys.length ≤ 16777216) : pyAdd (.tuple xs) (.tuple ys) = some (.fz (.tuple (xs ++ ys))) := if_pos h
theorem addL {xs ys : List D} (h : xs.length + ys.length ≤ 16777216) : pyAdd (.list xs) (.list ys) = some (.ow (xs ++ ys)) := if_pos h
/-! ### == over data -/
@[simp] theorem shp_eq (d : D) : SeqAt.shaped d = (d.canLay0 && decide (d.depth ≤ 64)) := rfl
@[simp] theorem lay_none  : PyData.canLay0 .none = true := by rw [PyData.canLay0]
@[simp] theorem dep_none  : PyData.depth .none = 0 := by rw [PyData.depth]
@[simp] theorem lay_bool (a : Bool) : PyData.canLay0 (.bool a) = true := by rw [PyData.canLay0]
@[simp] theorem dep_bool (a : Bool) : PyData.depth (.bool a) = 0 := by rw [PyData.depth]
@[simp] theorem lay_int (a : Int) : PyData.canLay0 (.int a) = true := by rw [PyData.canLay0]
@[simp] theorem dep_int (a : Int) : PyData.depth (.int a) = 0 := by rw [PyData.depth]
@[simp] theorem lay_str (a : Str) : PyData.canLay0 (.str a) = PyData.strOk a := by rw [PyData.canLay0]
@[simp] theorem dep_str (a : Str) : PyData.depth (.str a) = 0 := by rw [PyData.depth]
@[simp] theorem lay_list (a : List D) : PyData.canLay0 (.list a) = PyData.canLayAll0 a := by rw [PyData.canLay0]
@[simp] theorem dep_list (a : List D) : PyData.depth (.list a) = PyData.depthAll a + 1 := by rw [PyData.depth]
@[simp] theorem lay_tuple (a : List D) : PyData.canLay0 (.tuple a) = PyData.canLayAll0 a := by rw [PyData.canLay0]
@[simp] theorem dep_tuple (a : List D) : PyData.depth (.tuple a) = PyData.depthAll a + 1 := by rw [PyData.depth]
@[simp] theorem layA_nil : PyData.canLayAll0 [] = true := by rw [PyData.canLayAll0]
@[simp] theorem layA_cons (x : D) (r : List D) : PyData.canLayAll0 (x :: r) = (x.canLay0 && PyData.canLayAll0 r) := by rw [PyData.canLayAll0]
@[simp] theorem depA_nil : PyData.depthAll [] = 0 := by rw [PyData.depthAll]
@[simp] theorem depA_cons (x : D) (r : List D) : PyData.depthAll (x :: r) = max x.depth (PyData.depthAll r) := by rw [PyData.depthAll]
@[simp] theorem eqv_none_none   : PyData.eqv .none .none = true := by rw [PyData.eqv]
@[simp] theorem eqv_none_bool  (b : Bool) : PyData.eqv .none (.bool b) = false := by rw [PyData.eqv]
@[simp] theorem eqv_none_int  (b : Int) : PyData.eqv .none (.int b) = false := by rw [PyData.eqv]
@[simp] theorem eqv_none_str  (b : Str) : PyData.eqv .none (.str b) = false := by rw [PyData.eqv]
@[simp] theorem eqv_none_list  (b : List D) : PyData.eqv .none (.list b) = false := by rw [PyData.eqv]
@[simp] theorem eqv_none_tuple  (b : List D) : PyData.eqv .none (.tuple b) = false := by rw [PyData.eqv]
@[simp] theorem eqv_bool_none (a : Bool)  : PyData.eqv (.bool a) .none = false := by rw [PyData.eqv]
@[simp] theorem eqv_bool_bool (a : Bool) (b : Bool) : PyData.eqv (.bool a) (.bool b) = (a == b) := by rw [PyData.eqv]
@[simp] theorem eqv_bool_int (a : Bool) (b : Int) : PyData.eqv (.bool a) (.int b) = ((if a then 1 else 0) == b) := by rw [PyData.eqv]
@[simp] theorem eqv_bool_str (a : Bool) (b : Str) : PyData.eqv (.bool a) (.str b) = false := by rw [PyData.eqv]
@[simp] theorem eqv_bool_list (a : Bool) (b : List D) : PyData.eqv (.bool a) (.list b) = false := by rw [PyData.eqv]
@[simp] theorem eqv_bool_tuple (a : Bool) (b : List D) : PyData.eqv (.bool a) (.tuple b) = false := by rw [PyData.eqv]
@[simp] theorem eqv_int_none (a : Int)  : PyData.eqv (.int a) .none = false := by rw [PyData.eqv]
@[simp] theorem eqv_int_bool (a : Int) (b : Bool) : PyData.eqv (.int a) (.bool b) = (a == (if b then 1 else 0)) := by rw [PyData.eqv]
@[simp] theorem eqv_int_int (a : Int) (b : Int) : PyData.eqv (.int a) (.int b) = (a == b) := by rw [PyData.eqv]
@[simp] theorem eqv_int_str (a : Int) (b : Str) : PyData.eqv (.int a) (.str b) = false := by rw [PyData.eqv]
@[simp] theorem eqv_int_list (a : Int) (b : List D) : PyData.eqv (.int a) (.list b) = false := by rw [PyData.eqv]
@[simp] theorem eqv_int_tuple (a : Int) (b : List D) : PyData.eqv (.int a) (.tuple b) = false := by rw [PyData.eqv]
@[simp] theorem eqv_str_none (a : Str)  : PyData.eqv (.str a) .none = false := by rw [PyData.eqv]
@[simp] theorem eqv_str_bool (a : Str) (b : Bool) : PyData.eqv (.str a) (.bool b) = false := by rw [PyData.eqv]
@[simp] theorem eqv_str_int (a : Str) (b : Int) : PyData.eqv (.str a) (.int b) = false := by rw [PyData.eqv]
@[simp] theorem eqv_str_str (a : Str) (b : Str) : PyData.eqv (.str a) (.str b) = (a == b) := by rw [PyData.eqv]
@[simp] theorem eqv_str_list (a : Str) (b : List D) : PyData.eqv (.str a) (.list b) = false := by rw [PyData.eqv]
@[simp] theorem eqv_str_tuple (a : Str) (b : List D) : PyData.eqv (.str a) (.tuple b) = false := by rw [PyData.eqv]
@[simp] theorem eqv_list_none (a : List D)  : PyData.eqv (.list a) .none = false := by rw [PyData.eqv]
@[simp] theorem eqv_list_bool (a : List D) (b : Bool) : PyData.eqv (.list a) (.bool b) = false := by rw [PyData.eqv]
@[simp] theorem eqv_list_int (a : List D) (b : Int) : PyData.eqv (.list a) (.int b) = false := by rw [PyData.eqv]
@[simp] theorem eqv_list_str (a : List D) (b : Str) : PyData.eqv (.list a) (.str b) = false := by rw [PyData.eqv]
@[simp] theorem eqv_list_list (a : List D) (b : List D) : PyData.eqv (.list a) (.list b) = PyData.eqvAll a b := by rw [PyData.eqv]
@[simp] theorem eqv_list_tuple (a : List D) (b : List D) : PyData.eqv (.list a) (.tuple b) = false := by rw [PyData.eqv]
@[simp] theorem eqv_tuple_none (a : List D)  : PyData.eqv (.tuple a) .none = false := by rw [PyData.eqv]
@[simp] theorem eqv_tuple_bool (a : List D) (b : Bool) : PyData.eqv (.tuple a) (.bool b) = false := by rw [PyData.eqv]
@[simp] theorem eqv_tuple_int (a : List D) (b : Int) : PyData.eqv (.tuple a) (.int b) = false := by rw [PyData.eqv]
@[simp] theorem eqv_tuple_str (a : List D) (b : Str) : PyData.eqv (.tuple a) (.str b) = false := by rw [PyData.eqv]
@[simp] theorem eqv_tuple_list (a : List D) (b : List D) : PyData.eqv (.tuple a) (.list b) = false := by rw [PyData.eqv]
@[simp] theorem eqv_tuple_tuple (a : List D) (b : List D) : PyData.eqv (.tuple a) (.tuple b) = PyData.eqvAll a b := by rw [PyData.eqv]
@[simp] theorem eqvA_nil : PyData.eqvAll [] [] = true := by rw [PyData.eqvAll]
@[simp] theorem eqvA_cons (x y : D) (r s : List D) : PyData.eqvAll (x :: r) (y :: s) = (PyData.eqv x y && PyData.eqvAll r s) := by rw [PyData.eqvAll]
@[simp] theorem eqvA_nc (y : D) (s : List D) : PyData.eqvAll [] (y :: s) = false := by rw [PyData.eqvAll]
@[simp] theorem eqvA_cn (y : D) (s : List D) : PyData.eqvAll (y :: s) [] = false := by rw [PyData.eqvAll]
/-- the ends of a tuple -/
theorem ixU_m1 (R : List D) (x : D) : pyIx (.tuple (R ++ [x])) (.int (-1)) = some (.fz x) := ixUn (m := 1) rfl (by decide) (by simp) (by simp)
theorem ixL_m1 (R : List D) (x : D) : pyIx (.list (R ++ [x])) (.int (-1)) = some (.fz x) := ixLn (m := 1) rfl (by decide) (by simp) (by simp)
theorem ixU_m2 (R : List D) (x y : D) : pyIx (.tuple (R ++ [x, y])) (.int (-2)) = some (.fz x) := ixUn (m := 2) rfl (by decide) (by simp) (by simp)
theorem ixU_m1' (R : List D) (x y : D) : pyIx (.tuple (R ++ [x, y])) (.int (-1)) = some (.fz y) := ixUn (m := 1) rfl (by decide) (by simp) (by simp [List.getElem?_append_right])
@[simp] theorem isNoneI (i : Int) : pyIs (.int i) .none = some false := rfl
@[simp] theorem isNoneN : pyIs .none .none = some true := rfl
@[simp] theorem isNoneU (xs : List D) : pyIs (.tuple xs) .none = some false := rfl
@[simp] theorem isNoneL (xs : List D) : pyIs (.list xs) .none = some false := rfl
@[simp] theorem isNotNoneI (i : Int) : pyIsNot (.int i) .none = some true := rfl
@[simp] theorem isNotNoneN : pyIsNot .none .none = some false := rfl
@[simp] theorem isNotNoneU (xs : List D) : pyIsNot (.tuple xs) .none = some true := rfl
@[simp] theorem isNotNoneL (xs : List D) : pyIsNot (.list xs) .none = some true := rfl
@[simp] theorem truB (b : Bool) : pyTruth (.bool b) = some b := rfl
@[simp] theorem intI (i : Int) : pyInt (.int i) = some (.fz (.int i)) := rfl
@[simp] theorem intB (b : Bool) : pyInt (.bool b) = some (.fz (.int (if b then 1 else 0))) := rfl
@[simp] theorem tupL (xs : List D) : pyTuple (.list xs) = some (.fz (.tuple xs)) := rfl
@[simp] theorem tupU (xs : List D) : pyTuple (.tuple xs) = some (.fz (.tuple xs)) := rfl
end
end FD
namespace FD
noncomputable section
/-- the defs that many laws share, at fixed places (see lib.json) -/
def libT : List Fn := [⟨1, 6, b_law_deal⟩, ⟨2, 5, b_law_take⟩, ⟨2, 3, b_law_same⟩, ⟨2, 2, b_law_bool⟩]
end
end FD
namespace K74
noncomputable section
open PySem PySem.W PySem.Spec PyProof.Rows FD
open L2 (FnOk Binds Fun FnScope defBody defScope defArgs CX0 fun_mk)
/-! ### the text (printed by gen.py) -/
def topS (i : Nat) : Stmt := PySem.Challenge.pw_standsfast_k74_whole_machines_run_as_tol.main.body.getD i (.Pass ⟨0, 0, 0, 0⟩)
def fns : List (Str × Nat × Nat) := [("_law_deal", 0, 1), ("_law_same", 2, 2), ("_law_take", 1, 2), ("_law_instruction", 4, 4), ("_law_program", 5, 3), ("_law_inserted", 6, 3), ("_law_right", 7, 3), ("_law_bool", 3, 2), ("is_word", 8, 1), ("is_instruction", 9, 4), ("is_program", 10, 2), ("_law_made", 11, 3), ("_law_is_word", 12, 1), ("_law_trace", 13, 2), ("result_of", 14, 3), ("grown", 15, 3), ("stepped", 16, 4), ("trace", 17, 2), ("run", 18, 2), ("steps_of", 19, 2), ("_law_run_told", 20, 2), ("_law_turn", 21, 2), ("_law_wrong", 22, 3)]
def cs : List (Str × D) := [("LEAST_WORD", (.int (-2147483648))),
  ("MOST_WORD", (.int 2147483647)),
  ("WORDS", (.tuple [(.str "push"), (.str "reading"), (.str "times"), (.str "add"), (.str "less"), (.str "least"), (.str "ring"), (.str "skip"), (.str "end")])),
  ("LENGTHS", (.tuple [(.int 2), (.int 2), (.int 1), (.int 1), (.int 1), (.int 1), (.int 2), (.int 3), (.int 1)])),
  ("PUSH", (.str "push")),
  ("RING", (.str "ring")),
  ("MOST_TESTS", (.int 1000)),
  ("READING", (.str "reading")),
  ("SKIP", (.str "skip")),
  ("MOST_STEPS", (.int 4000)),
  ("END", (.str "end")),
  ("TIMES", (.str "times")),
  ("ADD", (.str "add")),
  ("LESS", (.str "less")),
  ("MOST_HEIGHT", (.int 8)),
  ("SILENT", (.str "silent")),
  ("ON", (.str "on")),
  ("BROKEN", (.str "broken")),
  ("RINGS", (.str "rings"))]
/-! _law_deal -/
def x_law_deal : FD.Ctx := ⟨["script", "row", "k", "cell", "turn", "total"], defScope (topS 31), ["script", "row", "k", "cell", "turn", "total"], fns, cs, false, true⟩
theorem s_law_deal : FnScope x_law_deal.N ["script"] (defScope (topS 31)) := ⟨rfl, rfl, rfl, by decide +kernel, rfl, by decide +kernel, by decide +kernel⟩
theorem c_law_deal (ct : CT) : cmpBody ct 4100 9 9 x_law_deal (defBody (topS 31)) = some (b_law_deal ct 4100) := rfl
/-! _law_same -/
def x_law_same : FD.Ctx := ⟨["a", "b", "k"], defScope (topS 33), ["a", "b", "k"], fns, cs, false, false⟩
theorem s_law_same : FnScope x_law_same.N ["a", "b"] (defScope (topS 33)) := ⟨rfl, rfl, rfl, by decide +kernel, rfl, by decide +kernel, by decide +kernel⟩
theorem c_law_same (ct : CT) : cmpBody ct 4100 9 9 x_law_same (defBody (topS 33)) = some (b_law_same ct 4100) := rfl
/-! _law_take -/
def x_law_take : FD.Ctx := ⟨["deal", "many", "at", "cell", "turn"], defScope (topS 32), ["deal", "many", "at", "cell", "turn"], fns, cs, false, false⟩
theorem s_law_take : FnScope x_law_take.N ["deal", "many"] (defScope (topS 32)) := ⟨rfl, rfl, rfl, by decide +kernel, rfl, by decide +kernel, by decide +kernel⟩
theorem c_law_take (ct : CT) : cmpBody ct 4100 9 9 x_law_take (defBody (topS 32)) = some (b_law_take ct 4100) := rfl
/-! _law_instruction -/
def x_law_instruction : FD.Ctx := ⟨["deal", "place", "many", "gauges", "kind"], defScope (topS 38), ["deal", "place", "many", "gauges", "kind"], fns, cs, false, false⟩
def b_law_instruction (ct : CT) (w : Nat) : Ev Fl :=
  (sSeq (sAsg 4 (cCall ct 1 (cACons (cVE 0) (cACons (cK (.int 15)) cANil))))
  (sSeq (sIf (cAnd (cCmp pyGt (cVP 3) (cD (cK (.int 0)))) (cCmp pyIn (cVP 4) (cD (cLst (cCons (cD (cK (.int 5))) (cCons (cD (cK (.int 6))) cNil))))))
    (sRet (cTup (cCons (cD (cK (.str "reading"))) (cCons (cD (cCall ct 1 (cACons (cVE 0) (cACons (cVE 3) cANil)))) cNil))))
    sPass)
  (sSeq (sIf (cAnd (cCmp pyGt (cVP 3) (cD (cK (.int 0)))) (cAnd (cCmp pyEq (cVP 4) (cD (cK (.int 12)))) (cCmp pyLt (cD (c2 pyAdd (cVP 1) (cD (cK (.int 1))))) (cVP 2))))
    (sRet (cTup (cCons (cD (cK (.str "skip"))) (cCons (cD (cCall ct 1 (cACons (cVE 0) (cACons (cVE 3) cANil)))) (cCons (cD (c2 pyAdd (cD (c2 pyAdd (cVP 1) (cD (cK (.int 1))))) (cD (cCall ct 1 (cACons (cVE 0) (cACons (c2 pySub (cD (c2 pySub (cVP 2) (cD (cK (.int 1))))) (cVP 1)) cANil)))))) cNil)))))
    sPass)
  (sSeq (sIf (cCmp pyIn (cVP 4) (cD (cLst (cCons (cD (cK (.int 7))) (cCons (cD (cK (.int 8))) (cCons (cD (cK (.int 9))) (cCons (cD (cK (.int 10))) cNil)))))))
    (sRet (c2 pyIx (cD (cLst (cCons (cD (cTup (cCons (cD (cK (.str "times"))) cNil))) (cCons (cD (cTup (cCons (cD (cK (.str "add"))) cNil))) (cCons (cD (cTup (cCons (cD (cK (.str "less"))) cNil))) (cCons (cD (cTup (cCons (cD (cK (.str "least"))) cNil))) cNil)))))) (cD (c2 pySub (cVP 4) (cD (cK (.int 7)))))))
    sPass)
  (sSeq (sIf (cCmp pyEq (cVP 4) (cD (cK (.int 11))))
    (sRet (cTup (cCons (cD (cK (.str "ring"))) (cCons (cD (cCall ct 1 (cACons (cVE 0) (cACons (cK (.int 1000)) cANil)))) cNil))))
    sPass)
  (sSeq (sIf (cCmp pyEq (cVP 4) (cD (cK (.int 13))))
    (sRet (cTup (cCons (cD (cK (.str "push"))) (cCons (cD (c2 pyIx (cD (cLst (cCons (cD (cK (.int 2147483647))) (cCons (cD (c1 pyNeg (cD (cK (.int 2147483648))))) (cCons (cD (cK (.int 65536))) (cCons (cD (c1 pyNeg (cD (cK (.int 46341))))) cNil)))))) (cD (cCall ct 1 (cACons (cVE 0) (cACons (cK (.int 4)) cANil)))))) cNil))))
    sPass)
  (sRet (cTup (cCons (cD (cK (.str "push"))) (cCons (cD (c2 pySub (cD (cCall ct 1 (cACons (cVE 0) (cACons (cK (.int 9)) cANil)))) (cD (cK (.int 4))))) cNil))))))))))
theorem s_law_instruction : FnScope x_law_instruction.N ["deal", "place", "many", "gauges"] (defScope (topS 38)) := ⟨rfl, rfl, rfl, by decide +kernel, rfl, by decide +kernel, by decide +kernel⟩
theorem c_law_instruction (ct : CT) : cmpBody ct 4100 9 9 x_law_instruction (defBody (topS 38)) = some (b_law_instruction ct 4100) := rfl
/-! _law_program -/
def x_law_program : FD.Ctx := ⟨["deal", "size", "gauges", "many", "rows", "place"], defScope (topS 39), ["deal", "size", "gauges", "many", "rows"], fns, cs, false, false⟩
def b_law_program (ct : CT) (w : Nat) : Ev Fl :=
  (sSeq (sAsg 3 (c2 pyAdd (cD (cK (.int 1))) (cVP 1)))
  (sSeq (sAsg 4 (cLc (iR1 (cD (c2 pySub (cVP 3) (cD (cK (.int 1)))))) [5] (gNm 5) cYes (cD (cCall ct 4 (cACons (cVE 0) (cACons (cVE 5) (cACons (cVE 3) (cACons (cVE 2) cANil))))))))
  (sRet (c1 pyTuple (cD (c2 pyAdd (cVP 4) (cD (cLst (cCons (cD (cTup (cCons (cD (cK (.str "end"))) cNil))) cNil)))))))))
theorem s_law_program : FnScope x_law_program.N ["deal", "size", "gauges"] (defScope (topS 39)) := ⟨rfl, rfl, rfl, by decide +kernel, rfl, by decide +kernel, by decide +kernel⟩
theorem c_law_program (ct : CT) : cmpBody ct 4100 9 9 x_law_program (defBody (topS 39)) = some (b_law_program ct 4100) := rfl
/-! _law_inserted -/
def x_law_inserted : FD.Ctx := ⟨["program", "place", "row", "found", "one"], defScope (topS 41), ["program", "place", "row", "found"], fns, cs, false, false⟩
def b_law_inserted (ct : CT) (w : Nat) : Ev Fl :=
  (sSeq (sAsg 3 (cLc (iSeq (cD (cVE 0))) [4] (gNm 4) cYes (cD (cIte (cAnd (cCmp pyEq (cD (cVIx 4 (cD (cK (.int 0))))) (cD (cK (.str "skip")))) (cCmp pyGt (cD (cVIx 4 (cD (cK (.int 2))))) (cVP 1))) (cTup (cCons (cD (cVIx 4 (cD (cK (.int 0))))) (cCons (cD (cVIx 4 (cD (cK (.int 1))))) (cCons (cD (c2 pyAdd (cD (cVIx 4 (cD (cK (.int 2))))) (cD (cK (.int 1))))) cNil)))) (cVE 4)))))
  (sRet (c1 pyTuple (cD (c2 pyAdd (cD (c2 pyAdd (cD (cSlice (cVP 3) cNoB (cBd (cVP 1)))) (cD (cLst (cCons (cD (cVE 2)) cNil))))) (cD (cSlice (cVP 3) (cBd (cVP 1)) cNoB)))))))
theorem s_law_inserted : FnScope x_law_inserted.N ["program", "place", "row"] (defScope (topS 41)) := ⟨rfl, rfl, rfl, by decide +kernel, rfl, by decide +kernel, by decide +kernel⟩
theorem c_law_inserted (ct : CT) : cmpBody ct 4100 9 9 x_law_inserted (defBody (topS 41)) = some (b_law_inserted ct 4100) := rfl
/-! _law_right -/
def x_law_right : FD.Ctx := ⟨["deal", "program", "gauges", "place", "many", "rows", "row"], defScope (topS 43), ["deal", "program", "gauges", "place", "many", "rows"], fns, cs, false, false⟩
def b_law_right (ct : CT) (w : Nat) : Ev Fl :=
  (sSeq (sAsg 3 (cCall ct 1 (cACons (cVE 0) (cACons (c1 pyLen (cVP 1)) cANil))))
  (sSeq (sAsg 4 (c1 pyLen (cVP 1)))
  (sSeq (sAsg 5 (cLst (cCons (cD (cTup (cCons (cD (cK (.str "push"))) (cCons (cD (cK (.int 2147483647))) cNil)))) (cCons (cD (cTup (cCons (cD (cK (.str "push"))) (cCons (cD (c1 pyNeg (cD (cK (.int 2147483648))))) cNil)))) (cCons (cD (cTup (cCons (cD (cK (.str "ring"))) (cCons (cD (cK (.int 999))) cNil)))) (cCons (cD (cTup (cCons (cD (cK (.str "ring"))) (cCons (cD (cK (.int 0))) cNil)))) (cCons (cD (cTup (cCons (cD (cK (.str "end"))) cNil))) (cCons (cD (cTup (cCons (cD (cK (.str "times"))) cNil))) (cCons (cD (cTup (cCons (cD (cK (.str "least"))) cNil))) cNil)))))))))
  (sSeq (sIf (cCmp pyGt (cVP 2) (cD (cK (.int 0))))
    (sAsg 5 (c2 pyAdd (cVP 5) (cD (cLst (cCons (cD (cTup (cCons (cD (cK (.str "reading"))) (cCons (cD (c2 pySub (cVP 2) (cD (cK (.int 1))))) cNil)))) (cCons (cD (cTup (cCons (cD (cK (.str "skip"))) (cCons (cD (c2 pySub (cVP 2) (cD (cK (.int 1))))) (cCons (cD (cVE 4)) cNil))))) (cCons (cD (cTup (cCons (cD (cK (.str "skip"))) (cCons (cD (cK (.int 0))) (cCons (cD (c2 pyAdd (cVP 3) (cD (cK (.int 1))))) cNil))))) cNil)))))))
    sPass)
  (sRet (cLc (iSeq (cD (cVE 5))) [6] (gNm 6) cYes (cD (cCall ct 6 (cACons (cVE 1) (cACons (cVE 3) (cACons (cVE 6) cANil)))))))))))
theorem s_law_right : FnScope x_law_right.N ["deal", "program", "gauges"] (defScope (topS 43)) := ⟨rfl, rfl, rfl, by decide +kernel, rfl, by decide +kernel, by decide +kernel⟩
theorem c_law_right (ct : CT) : cmpBody ct 4100 9 9 x_law_right (defBody (topS 43)) = some (b_law_right ct 4100) := rfl
/-! _law_bool -/
def x_law_bool : FD.Ctx := ⟨["answer", "due"], defScope (topS 34), ["answer", "due"], fns, cs, false, false⟩
theorem s_law_bool : FnScope x_law_bool.N ["answer", "due"] (defScope (topS 34)) := ⟨rfl, rfl, rfl, by decide +kernel, rfl, by decide +kernel, by decide +kernel⟩
theorem c_law_bool (ct : CT) : cmpBody ct 4100 9 9 x_law_bool (defBody (topS 34)) = some (b_law_bool ct 4100) := rfl
/-! is_word -/
def x_is_word : FD.Ctx := ⟨["n"], defScope (topS 21), ["n"], fns, cs, false, false⟩
def b_is_word (ct : CT) (w : Nat) : Ev Fl :=
  (sRet (cB (cChain pyLe pyLe (cD (cK (.int (-2147483648)))) (cVP 0) (cD (cK (.int 2147483647))))))
theorem s_is_word : FnScope x_is_word.N ["n"] (defScope (topS 21)) := ⟨rfl, rfl, rfl, by decide +kernel, rfl, by decide +kernel, by decide +kernel⟩
theorem c_is_word (ct : CT) : cmpBody ct 4100 9 9 x_is_word (defBody (topS 21)) = some (b_is_word ct 4100) := rfl
/-! is_instruction -/
def x_is_instruction : FD.Ctx := ⟨["instruction", "place", "many", "gauges"], defScope (topS 22), ["instruction", "place", "many", "gauges"], fns, cs, false, false⟩
def b_is_instruction (ct : CT) (w : Nat) : Ev Fl :=
  (sSeq (sIf (cOr (cCmp pyNotIn (cD (cVIx 0 (cD (cK (.int 0))))) (cD (cK (.tuple [(.str "push"), (.str "reading"), (.str "times"), (.str "add"), (.str "less"), (.str "least"), (.str "ring"), (.str "skip"), (.str "end")])))) (cCmp pyNe (cD (c1 pyLen (cVP 0))) (cD (c2 pyIx (cD (cK (.tuple [(.int 2), (.int 2), (.int 1), (.int 1), (.int 1), (.int 1), (.int 2), (.int 3), (.int 1)]))) (cD (cIxK (.tuple [(.str "push"), (.str "reading"), (.str "times"), (.str "add"), (.str "less"), (.str "least"), (.str "ring"), (.str "skip"), (.str "end")]) (cD (cVIx 0 (cD (cK (.int 0)))))))))))
    (sRet (cK (.bool false)))
    sPass)
  (sSeq (sIf (cCmp pyEq (cD (cVIx 0 (cD (cK (.int 0))))) (cD (cK (.str "push"))))
    (sRet (cCall ct 8 (cACons (cVIx 0 (cD (cK (.int 1)))) cANil)))
    sPass)
  (sSeq (sIf (cCmp pyEq (cD (cVIx 0 (cD (cK (.int 0))))) (cD (cK (.str "ring"))))
    (sRet (cB (cChain pyLe pyLt (cD (cK (.int 0))) (cD (cVIx 0 (cD (cK (.int 1))))) (cD (cK (.int 1000))))))
    sPass)
  (sSeq (sIf (cCmp pyEq (cD (cVIx 0 (cD (cK (.int 0))))) (cD (cK (.str "reading"))))
    (sRet (cB (cChain pyLe pyLt (cD (cK (.int 0))) (cD (cVIx 0 (cD (cK (.int 1))))) (cVP 3))))
    sPass)
  (sRet (cB (cOr (cCmp pyNe (cD (cVIx 0 (cD (cK (.int 0))))) (cD (cK (.str "skip")))) (cAnd (cChain pyLe pyLt (cD (cK (.int 0))) (cD (cVIx 0 (cD (cK (.int 1))))) (cVP 3)) (cChain pyLt pyLt (cVP 1) (cD (cVIx 0 (cD (cK (.int 2))))) (cVP 2))))))))))
theorem s_is_instruction : FnScope x_is_instruction.N ["instruction", "place", "many", "gauges"] (defScope (topS 22)) := ⟨rfl, rfl, rfl, by decide +kernel, rfl, by decide +kernel, by decide +kernel⟩
theorem c_is_instruction (ct : CT) : cmpBody ct 4100 9 9 x_is_instruction (defBody (topS 22)) = some (b_is_instruction ct 4100) := rfl
/-! is_program -/
def x_is_program : FD.Ctx := ⟨["program", "gauges", "place", "instruction"], defScope (topS 23), ["program", "gauges", "place", "instruction"], fns, cs, false, false⟩
def b_is_program (ct : CT) (w : Nat) : Ev Fl :=
  (sSeq (sIf (cOr (cNot (cChain pyLe pyLe (cD (cK (.int 1))) (cD (c1 pyLen (cVP 0))) (cD (cK (.int 4000))))) (cCmp pyNe (cD (cVIx 0 (cD (c1 pyNeg (cD (cK (.int 1))))))) (cD (cTup (cCons (cD (cK (.str "end"))) cNil)))))
    (sRet (cK (.bool false)))
    sPass)
  (sSeq (sFor (iEnum (cD (cVE 0))) (gTp 2 (gC (gNm 2) (gC (gNm 3) gN)))
    (sIf (cNot (cTru (cD (cCall ct 9 (cACons (cVE 3) (cACons (cVE 2) (cACons (c1 pyLen (cVP 0)) (cACons (cVE 1) cANil))))))))
      (sRet (cK (.bool false)))
      sPass))
  (sRet (cK (.bool true)))))
theorem s_is_program : FnScope x_is_program.N ["program", "gauges"] (defScope (topS 23)) := ⟨rfl, rfl, rfl, by decide +kernel, rfl, by decide +kernel, by decide +kernel⟩
theorem c_is_program (ct : CT) : cmpBody ct 4100 9 9 x_is_program (defBody (topS 23)) = some (b_is_program ct 4100) := rfl
/-! _law_made -/
def x_law_made : FD.Ctx := ⟨["instruction", "turn", "stack", "a", "b", "rest"], defScope (topS 36), ["instruction", "turn", "stack", "a", "b", "rest"], fns, cs, false, false⟩
def b_law_made (ct : CT) (w : Nat) : Ev Fl :=
  (sSeq (sIf (cCmp pyEq (cD (cVIx 0 (cD (cK (.int 0))))) (cD (cK (.str "push"))))
    (sRet (cTup (cCons (cD (cVE 2)) (cCons (cD (cVIx 0 (cD (cK (.int 1))))) cNil))))
    sPass)
  (sSeq (sIf (cCmp pyEq (cD (cVIx 0 (cD (cK (.int 0))))) (cD (cK (.str "reading"))))
    (sRet (cTup (cCons (cD (cVE 2)) (cCons (cD (cVIx 1 (cD (cVIx 0 (cD (cK (.int 1))))))) cNil))))
    sPass)
  (sSeq (sIf (cCmp pyLt (cD (c1 pyLen (cVP 2))) (cD (cK (.int 2))))
    (sRet (cTup (cCons (cD (cVE 2)) (cCons (cD (cK .none)) cNil))))
    sPass)
  (sSeq (sPar 3 4 (cD (cVIx 2 (cD (c2 pySub (cD (c1 pyLen (cVP 2))) (cD (cK (.int 2))))))) (cD (cVIx 2 (cD (c2 pySub (cD (c1 pyLen (cVP 2))) (cD (cK (.int 1))))))))
  (sSeq (sAsg 5 (cSlice (cVP 2) cNoB (cBd (cD (c2 pySub (cD (c1 pyLen (cVP 2))) (cD (cK (.int 2))))))))
  (sSeq (sIf (cCmp pyEq (cD (cVIx 0 (cD (cK (.int 0))))) (cD (cK (.str "times"))))
    (sRet (cTup (cCons (cD (cVE 5)) (cCons (cD (c2 pyMul (cVP 3) (cVP 4))) cNil))))
    sPass)
  (sSeq (sIf (cCmp pyEq (cD (cVIx 0 (cD (cK (.int 0))))) (cD (cK (.str "add"))))
    (sRet (cTup (cCons (cD (cVE 5)) (cCons (cD (c2 pyAdd (cVP 3) (cVP 4))) cNil))))
    sPass)
  (sRet (cIte (cCmp pyEq (cD (cVIx 0 (cD (cK (.int 0))))) (cD (cK (.str "less")))) (cTup (cCons (cD (cVE 5)) (cCons (cD (c2 pySub (cVP 3) (cVP 4))) cNil))) (cTup (cCons (cD (cVE 5)) (cCons (cD (c1 pyInt (cD (cB (cCmp pyGe (cVP 3) (cVP 4)))))) cNil))))))))))))
theorem s_law_made : FnScope x_law_made.N ["instruction", "turn", "stack"] (defScope (topS 36)) := ⟨rfl, rfl, rfl, by decide +kernel, rfl, by decide +kernel, by decide +kernel⟩
theorem c_law_made (ct : CT) : cmpBody ct 4100 9 9 x_law_made (defBody (topS 36)) = some (b_law_made ct 4100) := rfl
/-! _law_is_word -/
def x_law_is_word : FD.Ctx := ⟨["n"], defScope (topS 35), ["n"], fns, cs, false, false⟩
def b_law_is_word (ct : CT) (w : Nat) : Ev Fl :=
  (sRet (cB (cChain pyLe pyLe (cD (c1 pyNeg (cD (cK (.int 2147483648))))) (cVP 0) (cD (cK (.int 2147483647))))))
theorem s_law_is_word : FnScope x_law_is_word.N ["n"] (defScope (topS 35)) := ⟨rfl, rfl, rfl, by decide +kernel, rfl, by decide +kernel, by decide +kernel⟩
theorem c_law_is_word (ct : CT) : cmpBody ct 4100 9 9 x_law_is_word (defBody (topS 35)) = some (b_law_is_word ct 4100) := rfl
/-! _law_trace -/
def x_law_trace : FD.Ctx := ⟨["program", "turn", "place", "stack", "states", "k", "instruction", "rest", "number"], defScope (topS 37), ["program", "turn", "place", "stack", "states", "k", "instruction", "rest", "number"], fns, cs, false, false⟩
def b_law_trace (ct : CT) (w : Nat) : Ev Fl :=
  (sSeq (sAsg 2 (cK (.int 0)))
  (sSeq (sAsg 3 (cTup cNil))
  (sSeq (sAsg 4 (cLst cNil))
  (sSeq (sFor (iR1 (cD (c1 pyLen (cVP 0)))) (gNm 5)
    (sSeq (sApp 4 (cD (cTup (cCons (cD (cVE 2)) (cCons (cD (cVE 3)) cNil)))))
    (sSeq (sAsg 6 (cVIx 0 (cVP 2)))
    (sSeq (sIf (cCmp pyEq (cD (cVIx 6 (cD (cK (.int 0))))) (cD (cK (.str "end"))))
      (sRet (cTup (cCons (cD (cVE 4)) (cCons (cD (cTup (cCons (cD (cK (.str "silent"))) cNil))) cNil))))
      sPass)
    (sIf (cCmp pyEq (cD (cVIx 6 (cD (cK (.int 0))))) (cD (cK (.str "skip"))))
      (sAsg 2 (cIte (cCmp pyIs (cD (cVIx 1 (cD (cVIx 6 (cD (cK (.int 1))))))) (cD (cK .none))) (cVIx 6 (cD (cK (.int 2)))) (c2 pyAdd (cVP 2) (cD (cK (.int 1))))))
      (sIf (cCmp pyEq (cD (cVIx 6 (cD (cK (.int 0))))) (cD (cK (.str "ring"))))
        (sSeq (sIf (cCmp pyEq (cD (c1 pyLen (cVP 3))) (cD (cK (.int 0))))
          (sRet (cTup (cCons (cD (cVE 4)) (cCons (cD (cTup (cCons (cD (cK (.str "broken"))) (cCons (cD (cVE 2)) cNil)))) cNil))))
          sPass)
        (sSeq (sIf (cCmp pyNe (cD (cVIx 3 (cD (c2 pySub (cD (c1 pyLen (cVP 3))) (cD (cK (.int 1))))))) (cD (cK (.int 0))))
          (sRet (cTup (cCons (cD (cVE 4)) (cCons (cD (cTup (cCons (cD (cK (.str "rings"))) (cCons (cD (cVIx 6 (cD (cK (.int 1))))) cNil)))) cNil))))
          sPass)
        (sSeq (sAsg 3 (cSlice (cVP 3) cNoB (cBd (cD (c2 pySub (cD (c1 pyLen (cVP 3))) (cD (cK (.int 1))))))))
        (sAsg 2 (c2 pyAdd (cVP 2) (cD (cK (.int 1))))))))
        (sSeq (sUnp (gTp 2 (gC (gNm 7) (gC (gNm 8) gN))) (cD (cCall ct 11 (cACons (cVE 6) (cACons (cVE 1) (cACons (cVE 3) cANil))))))
        (sSeq (sIf (cOr (cCmp pyIs (cVP 8) (cD (cK .none))) (cOr (cNot (cTru (cD (cCall ct 12 (cACons (cVE 8) cANil))))) (cCmp pyGt (cD (c1 pyLen (cVP 7))) (cD (cK (.int 7))))))
          (sRet (cTup (cCons (cD (cVE 4)) (cCons (cD (cTup (cCons (cD (cK (.str "broken"))) (cCons (cD (cVE 2)) cNil)))) cNil))))
          sPass)
        (sSeq (sAsg 3 (c2 pyAdd (cVP 7) (cD (cTup (cCons (cD (cVE 8)) cNil)))))
        (sAsg 2 (c2 pyAdd (cVP 2) (cD (cK (.int 1))))))))))))))
  (sRet (cTup (cCons (cD (cVE 4)) (cCons (cD (cTup (cCons (cD (cK (.str "broken"))) (cCons (cD (cVE 2)) cNil)))) cNil))))))))
theorem s_law_trace : FnScope x_law_trace.N ["program", "turn"] (defScope (topS 37)) := ⟨rfl, rfl, rfl, by decide +kernel, rfl, by decide +kernel, by decide +kernel⟩
theorem c_law_trace (ct : CT) : cmpBody ct 4100 9 9 x_law_trace (defBody (topS 37)) = some (b_law_trace ct 4100) := rfl
/-! result_of -/
def x_result_of : FD.Ctx := ⟨["word", "a", "b"], defScope (topS 24), ["word", "a", "b"], fns, cs, false, false⟩
def b_result_of (ct : CT) (w : Nat) : Ev Fl :=
  (sSeq (sIf (cCmp pyEq (cVP 0) (cD (cK (.str "times"))))
    (sRet (c2 pyMul (cVP 1) (cVP 2)))
    sPass)
  (sSeq (sIf (cCmp pyEq (cVP 0) (cD (cK (.str "add"))))
    (sRet (c2 pyAdd (cVP 1) (cVP 2)))
    sPass)
  (sSeq (sIf (cCmp pyEq (cVP 0) (cD (cK (.str "less"))))
    (sRet (c2 pySub (cVP 1) (cVP 2)))
    sPass)
  (sRet (c1 pyInt (cD (cB (cCmp pyGe (cVP 1) (cVP 2)))))))))
theorem s_result_of : FnScope x_result_of.N ["word", "a", "b"] (defScope (topS 24)) := ⟨rfl, rfl, rfl, by decide +kernel, rfl, by decide +kernel, by decide +kernel⟩
theorem c_result_of (ct : CT) : cmpBody ct 4100 9 9 x_result_of (defBody (topS 24)) = some (b_result_of ct 4100) := rfl
/-! grown -/
def x_grown : FD.Ctx := ⟨["instruction", "turn", "stack", "rest", "number"], defScope (topS 25), ["instruction", "turn", "stack", "rest", "number"], fns, cs, false, false⟩
def b_grown (ct : CT) (w : Nat) : Ev Fl :=
  (sSeq (sAsg 3 (cVE 2))
  (sSeq (sIf (cCmp pyEq (cD (cVIx 0 (cD (cK (.int 0))))) (cD (cK (.str "push"))))
    (sAsg 4 (cVIx 0 (cD (cK (.int 1)))))
    (sIf (cCmp pyEq (cD (cVIx 0 (cD (cK (.int 0))))) (cD (cK (.str "reading"))))
      (sAsg 4 (cVIx 1 (cD (cVIx 0 (cD (cK (.int 1)))))))
      (sIf (cCmp pyLt (cD (c1 pyLen (cVP 2))) (cD (cK (.int 2))))
        (sRet (cK .none))
        (sSeq (sAsg 4 (cCall ct 14 (cACons (cVIx 0 (cD (cK (.int 0)))) (cACons (cVIx 2 (cD (c1 pyNeg (cD (cK (.int 2)))))) (cACons (cVIx 2 (cD (c1 pyNeg (cD (cK (.int 1)))))) cANil)))))
        (sAsg 3 (cSlice (cVP 2) cNoB (cBd (cD (c1 pyNeg (cD (cK (.int 2))))))))))))
  (sSeq (sIf (cOr (cCmp pyIs (cVP 4) (cD (cK .none))) (cOr (cNot (cTru (cD (cCall ct 8 (cACons (cVE 4) cANil))))) (cCmp pyEq (cD (c1 pyLen (cVP 3))) (cD (cK (.int 8))))))
    (sRet (cK .none))
    sPass)
  (sRet (c2 pyAdd (cVP 3) (cD (cTup (cCons (cD (cVE 4)) cNil))))))))
theorem s_grown : FnScope x_grown.N ["instruction", "turn", "stack"] (defScope (topS 25)) := ⟨rfl, rfl, rfl, by decide +kernel, rfl, by decide +kernel, by decide +kernel⟩
theorem c_grown (ct : CT) : cmpBody ct 4100 9 9 x_grown (defBody (topS 25)) = some (b_grown ct 4100) := rfl
/-! stepped -/
def x_stepped : FD.Ctx := ⟨["program", "turn", "place", "stack", "instruction"], defScope (topS 26), ["program", "turn", "place", "stack", "instruction"], fns, cs, false, false⟩
def b_stepped (ct : CT) (w : Nat) : Ev Fl :=
  (sSeq (sAsg 4 (cVIx 0 (cVP 2)))
  (sSeq (sIf (cCmp pyEq (cD (cVIx 4 (cD (cK (.int 0))))) (cD (cK (.str "end"))))
    (sRet (cTup (cCons (cD (cK (.str "silent"))) cNil)))
    sPass)
  (sSeq (sIf (cCmp pyEq (cD (cVIx 4 (cD (cK (.int 0))))) (cD (cK (.str "skip"))))
    (sRet (cTup (cCons (cD (cK (.str "on"))) (cCons (cD (cIte (cCmp pyIs (cD (cVIx 1 (cD (cVIx 4 (cD (cK (.int 1))))))) (cD (cK .none))) (cVIx 4 (cD (cK (.int 2)))) (c2 pyAdd (cVP 2) (cD (cK (.int 1)))))) (cCons (cD (cVE 3)) cNil)))))
    sPass)
  (sSeq (sIf (cCmp pyEq (cD (cVIx 4 (cD (cK (.int 0))))) (cD (cK (.str "ring"))))
    (sSeq (sIf (cCmp pyEq (cVP 3) (cD (cTup cNil)))
      (sRet (cTup (cCons (cD (cK (.str "broken"))) (cCons (cD (cVE 2)) cNil))))
      sPass)
    (sRet (cIte (cCmp pyNe (cD (cVIx 3 (cD (c1 pyNeg (cD (cK (.int 1))))))) (cD (cK (.int 0)))) (cTup (cCons (cD (cK (.str "rings"))) (cCons (cD (cVIx 4 (cD (cK (.int 1))))) cNil))) (cTup (cCons (cD (cK (.str "on"))) (cCons (cD (c2 pyAdd (cVP 2) (cD (cK (.int 1))))) (cCons (cD (cSlice (cVP 3) cNoB (cBd (cD (c1 pyNeg (cD (cK (.int 1)))))))) cNil)))))))
    sPass)
  (sSeq (sAsg 3 (cCall ct 15 (cACons (cVE 4) (cACons (cVE 1) (cACons (cVE 3) cANil)))))
  (sRet (cIte (cCmp pyIs (cVP 3) (cD (cK .none))) (cTup (cCons (cD (cK (.str "broken"))) (cCons (cD (cVE 2)) cNil))) (cTup (cCons (cD (cK (.str "on"))) (cCons (cD (c2 pyAdd (cVP 2) (cD (cK (.int 1))))) (cCons (cD (cVE 3)) cNil)))))))))))
theorem s_stepped : FnScope x_stepped.N ["program", "turn", "place", "stack"] (defScope (topS 26)) := ⟨rfl, rfl, rfl, by decide +kernel, rfl, by decide +kernel, by decide +kernel⟩
theorem c_stepped (ct : CT) : cmpBody ct 4100 9 9 x_stepped (defBody (topS 26)) = some (b_stepped ct 4100) := rfl
/-! trace -/
def x_trace : FD.Ctx := ⟨["program", "turn", "states", "k", "found"], defScope (topS 27), ["program", "turn", "states", "k", "found"], fns, cs, false, false⟩
def b_trace (ct : CT) (w : Nat) : Ev Fl :=
  (sSeq (sAsg 2 (cLst (cCons (cD (cTup (cCons (cD (cK (.int 0))) (cCons (cD (cTup cNil)) cNil)))) cNil)))
  (sSeq (sFor (iR1 (cD (c1 pyLen (cVP 0)))) (gNm 3)
    (sSeq (sAsg 4 (cCall ct 16 (cACons (cVE 0) (cACons (cVE 1) (cACons (c2 pyIx (cD (cVIx 2 (cD (c1 pyNeg (cD (cK (.int 1))))))) (cD (cK (.int 0)))) (cACons (c2 pyIx (cD (cVIx 2 (cD (c1 pyNeg (cD (cK (.int 1))))))) (cD (cK (.int 1)))) cANil))))))
    (sSeq (sIf (cCmp pyNe (cD (cVIx 4 (cD (cK (.int 0))))) (cD (cK (.str "on"))))
      (sRet (cTup (cCons (cD (cVE 2)) (cCons (cD (cVE 4)) cNil))))
      sPass)
    (sApp 2 (cD (cSlice (cVP 4) (cBd (cD (cK (.int 1)))) cNoB))))))
  (sRet (cTup (cCons (cD (cVE 2)) (cCons (cD (cTup (cCons (cD (cK (.str "broken"))) (cCons (cD (c2 pyIx (cD (cVIx 2 (cD (c1 pyNeg (cD (cK (.int 1))))))) (cD (cK (.int 0))))) cNil)))) cNil))))))
theorem s_trace : FnScope x_trace.N ["program", "turn"] (defScope (topS 27)) := ⟨rfl, rfl, rfl, by decide +kernel, rfl, by decide +kernel, by decide +kernel⟩
theorem c_trace (ct : CT) : cmpBody ct 4100 9 9 x_trace (defBody (topS 27)) = some (b_trace ct 4100) := rfl
/-! run -/
def x_run : FD.Ctx := ⟨["program", "turn"], defScope (topS 28), ["program", "turn"], fns, cs, false, false⟩
def b_run (ct : CT) (w : Nat) : Ev Fl :=
  (sRet (c2 pyIx (cD (cCall ct 17 (cACons (cVE 0) (cACons (cVE 1) cANil)))) (cD (cK (.int 1)))))
theorem s_run : FnScope x_run.N ["program", "turn"] (defScope (topS 28)) := ⟨rfl, rfl, rfl, by decide +kernel, rfl, by decide +kernel, by decide +kernel⟩
theorem c_run (ct : CT) : cmpBody ct 4100 9 9 x_run (defBody (topS 28)) = some (b_run ct 4100) := rfl
/-! steps_of -/
def x_steps_of : FD.Ctx := ⟨["program", "turn"], defScope (topS 29), ["program", "turn"], fns, cs, false, false⟩
def b_steps_of (ct : CT) (w : Nat) : Ev Fl :=
  (sRet (c1 pyLen (cD (c2 pyIx (cD (cCall ct 17 (cACons (cVE 0) (cACons (cVE 1) cANil)))) (cD (cK (.int 0)))))))
theorem s_steps_of : FnScope x_steps_of.N ["program", "turn"] (defScope (topS 29)) := ⟨rfl, rfl, rfl, by decide +kernel, rfl, by decide +kernel, by decide +kernel⟩
theorem c_steps_of (ct : CT) : cmpBody ct 4100 9 9 x_steps_of (defBody (topS 29)) = some (b_steps_of ct 4100) := rfl
/-! _law_run_told -/
def x_law_run_told : FD.Ctx := ⟨["program", "turn", "states", "end"], defScope (topS 44), ["program", "turn", "states", "end"], fns, cs, false, false⟩
def b_law_run_told (ct : CT) (w : Nat) : Ev Fl :=
  (sSeq (sUnp (gTp 2 (gC (gNm 2) (gC (gNm 3) gN))) (cD (cCall ct 13 (cACons (cVE 0) (cACons (cVE 1) cANil)))))
  (sSeq (sIf (cOr (cNot (cTru (cD (cCall ct 2 (cACons (cCall ct 17 (cACons (cVE 0) (cACons (cVE 1) cANil))) (cACons (cTup (cCons (cD (cVE 2)) (cCons (cD (cVE 3)) cNil))) cANil)))))) (cNot (cTru (cD (cCall ct 2 (cACons (cCall ct 18 (cACons (cVE 0) (cACons (cVE 1) cANil))) (cACons (cVE 3) cANil)))))))
    (sRet (cK (.bool false)))
    sPass)
  (sRet (cCall ct 2 (cACons (cCall ct 19 (cACons (cVE 0) (cACons (cVE 1) cANil))) (cACons (c1 pyLen (cVP 2)) cANil))))))
theorem s_law_run_told : FnScope x_law_run_told.N ["program", "turn"] (defScope (topS 44)) := ⟨rfl, rfl, rfl, by decide +kernel, rfl, by decide +kernel, by decide +kernel⟩
theorem c_law_run_told (ct : CT) : cmpBody ct 4100 9 9 x_law_run_told (defBody (topS 44)) = some (b_law_run_told ct 4100) := rfl
/-! _law_turn -/
def x_law_turn : FD.Ctx := ⟨["deal", "gauges", "g"], defScope (topS 40), ["deal", "gauges"], fns, cs, false, false⟩
def b_law_turn (ct : CT) (w : Nat) : Ev Fl :=
  (sRet (c1 pyTuple (cD (cLc (iR1 (cVP 1)) [2] (gNm 2) cYes (cD (cIte (cCmp pyEq (cD (cCall ct 1 (cACons (cVE 0) (cACons (cK (.int 4)) cANil)))) (cD (cK (.int 0)))) (cK .none) (c2 pySub (cD (cCall ct 1 (cACons (cVE 0) (cACons (cK (.int 19)) cANil)))) (cD (cK (.int 9))))))))))
theorem s_law_turn : FnScope x_law_turn.N ["deal", "gauges"] (defScope (topS 40)) := ⟨rfl, rfl, rfl, by decide +kernel, rfl, by decide +kernel, by decide +kernel⟩
theorem c_law_turn (ct : CT) : cmpBody ct 4100 9 9 x_law_turn (defBody (topS 40)) = some (b_law_turn ct 4100) := rfl
/-! _law_wrong -/
def x_law_wrong : FD.Ctx := ⟨["deal", "program", "gauges", "place", "many", "end", "wrong", "rows", "row"], defScope (topS 42), ["deal", "program", "gauges", "place", "many", "end", "wrong", "rows"], fns, cs, false, false⟩
def b_law_wrong (ct : CT) (w : Nat) : Ev Fl :=
  (sSeq (sAsg 3 (cCall ct 1 (cACons (cVE 0) (cACons (c1 pyLen (cVP 1)) cANil))))
  (sSeq (sAsg 4 (c1 pyLen (cVP 1)))
  (sSeq (sAsg 5 (cTup (cCons (cD (cK (.str "end"))) cNil)))
  (sSeq (sAsg 6 (cLst (cCons (cD (cTup cNil)) (cCons (cD (c2 pyAdd (cVP 1) (cD (cTup (cCons (cD (cTup (cCons (cD (cK (.str "push"))) (cCons (cD (cK (.int 0))) cNil)))) cNil))))) (cCons (cD (c2 pyAdd (cD (cSlice (cVP 1) cNoB (cBd (cD (c1 pyNeg (cD (cK (.int 1)))))))) (cD (cTup (cCons (cD (cTup (cCons (cD (cK (.str "end"))) (cCons (cD (cK (.int 0))) cNil)))) cNil))))) cNil)))))
  (sSeq (sAsg 7 (cLst (cCons (cD (cTup (cCons (cD (cK (.str "push"))) (cCons (cD (cK (.int 2147483648))) cNil)))) (cCons (cD (cTup (cCons (cD (cK (.str "push"))) (cCons (cD (c1 pyNeg (cD (cK (.int 2147483649))))) cNil)))) (cCons (cD (cTup (cCons (cD (cK (.str "push"))) cNil))) (cCons (cD (cTup (cCons (cD (cK (.str "push"))) (cCons (cD (cK (.int 1))) (cCons (cD (cK (.int 1))) cNil))))) (cCons (cD (cTup (cCons (cD (cK (.str "reading"))) (cCons (cD (cVE 2)) cNil)))) (cCons (cD (cTup (cCons (cD (cK (.str "reading"))) (cCons (cD (c1 pyNeg (cD (cK (.int 1))))) cNil)))) cNil))))))))
  (sSeq (sAsg 7 (c2 pyAdd (cVP 7) (cD (cLst (cCons (cD (cTup (cCons (cD (cK (.str "ring"))) (cCons (cD (cK (.int 1000))) cNil)))) (cCons (cD (cTup (cCons (cD (cK (.str "ring"))) (cCons (cD (c1 pyNeg (cD (cK (.int 1))))) cNil)))) (cCons (cD (cTup (cCons (cD (cK (.str "skip"))) (cCons (cD (cVE 2)) (cCons (cD (cVE 4)) cNil))))) (cCons (cD (cTup (cCons (cD (cK (.str "odd"))) cNil))) (cCons (cD (cTup (cCons (cD (cK (.str "times"))) (cCons (cD (cK (.int 1))) cNil)))) (cCons (cD (cTup (cCons (cD (cK (.str "add"))) (cCons (cD (cK (.int 0))) cNil)))) (cCons (cD (cTup (cCons (cD (cK (.str "less"))) (cCons (cD (cK (.int 2))) cNil)))) (cCons (cD (cTup (cCons (cD (cK (.str "least"))) (cCons (cD (cK (.int 3))) cNil)))) cNil))))))))))))
  (sSeq (sIf (cCmp pyGt (cVP 2) (cD (cK (.int 0))))
    (sAsg 7 (c2 pyAdd (cVP 7) (cD (cLst (cCons (cD (cTup (cCons (cD (cK (.str "skip"))) (cCons (cD (cK (.int 0))) (cCons (cD (cVE 3)) cNil))))) (cCons (cD (cTup (cCons (cD (cK (.str "skip"))) (cCons (cD (cK (.int 0))) (cCons (cD (c2 pyAdd (cVP 4) (cD (cK (.int 1))))) cNil))))) (cCons (cD (cTup (cCons (cD (cK (.str "skip"))) (cCons (cD (cK (.int 0))) (cCons (cD (c1 pyNeg (cD (cK (.int 1))))) cNil))))) (cCons (cD (cTup (cCons (cD (cK (.str "skip"))) (cCons (cD (c1 pyNeg (cD (cK (.int 1))))) (cCons (cD (cVE 4)) cNil))))) (cCons (cD (cTup (cCons (cD (cK (.str "skip"))) (cCons (cD (cK (.int 0))) cNil)))) cNil)))))))))
    sPass)
  (sRet (c2 pyAdd (cD (c2 pyAdd (cVP 6) (cD (cLc (iSeq (cD (cVE 7))) [8] (gNm 8) cYes (cD (cCall ct 6 (cACons (cVE 1) (cACons (cVE 3) (cACons (cVE 8) cANil))))))))) (cD (cLst (cCons (cD (c2 pyAdd (cD (c2 pyMul (cD (cTup (cCons (cD (cVE 5)) cNil))) (cD (c2 pySub (cD (cK (.int 4001))) (cVP 4))))) (cVP 1))) cNil))))))))))))
theorem s_law_wrong : FnScope x_law_wrong.N ["deal", "program", "gauges"] (defScope (topS 42)) := ⟨rfl, rfl, rfl, by decide +kernel, rfl, by decide +kernel, by decide +kernel⟩
theorem c_law_wrong (ct : CT) : cmpBody ct 4100 9 9 x_law_wrong (defBody (topS 42)) = some (b_law_wrong ct 4100) := rfl
/-! law -/
def x_law : FD.Ctx := ⟨["script", "deal", "gauges", "size", "program", "one", "turn", "many", "deep", "n", "k"], defScope (topS 45), ["script", "deal", "gauges", "size", "program", "one", "turn", "many", "deep", "n"], fns, cs, true, false⟩
def b_law (ct : CT) (w : Nat) : Ev Fl :=
  (sSeq (sAsgN 1 (cCall ct 0 (cACons (cVE 0) cANil)))
  (sSeq (sIf (cNot (cTru (cD (cCall ct 2 (cACons (cTup (cCons (cD (cK (.int (-2147483648)))) (cCons (cD (cK (.int 2147483647))) (cCons (cD (cK (.int 8))) (cCons (cD (cK (.int 4000))) (cCons (cD (cK (.int 1000))) cNil)))))) (cACons (cTup (cCons (cD (c1 pyNeg (cD (cK (.int 2147483648))))) (cCons (cD (cK (.int 2147483647))) (cCons (cD (cK (.int 8))) (cCons (cD (cK (.int 4000))) (cCons (cD (cK (.int 1000))) cNil)))))) cANil))))))
    (sRet (cK (.bool false)))
    sPass)
  (sSeq (sAsgN 2 (cCall ct 1 (cACons (cVE 1) (cACons (cK (.int 5)) cANil))))
  (sSeq (sAsgN 3 (cIte (cCmp pyGt (cD (cCall ct 1 (cACons (cVE 1) (cACons (cK (.int 4)) cANil)))) (cD (cK (.int 0)))) (cCall ct 1 (cACons (cVE 1) (cACons (cK (.int 14)) cANil))) (cCall ct 1 (cACons (cVE 1) (cACons (cK (.int 50)) cANil)))))
  (sSeq (sAsgN 4 (cCall ct 5 (cACons (cVE 1) (cACons (cVE 3) (cACons (cVE 2) cANil)))))
  (sSeq (sFor (iSeq (cD (c2 pyAdd (cD (cLst (cCons (cD (cVE 4)) cNil))) (cD (cCall ct 7 (cACons (cVE 1) (cACons (cVE 4) (cACons (cVE 2) cANil)))))))) (gNm 5)
    (sIf (cOr (cNot (cTru (cD (cCall ct 3 (cACons (cCall ct 10 (cACons (cVE 5) (cACons (cVE 2) cANil))) (cACons (cK (.bool true)) cANil)))))) (cNot (cTru (cD (cCall ct 20 (cACons (cVE 5) (cACons (cCall ct 21 (cACons (cVE 1) (cACons (cVE 2) cANil))) cANil)))))))
      (sRet (cK (.bool false)))
      sPass))
  (sSeq (sFor (iR1 (cD (cK (.int 3)))) (gNm 6)
    (sIf (cNot (cTru (cD (cCall ct 20 (cACons (cVE 4) (cACons (cCall ct 21 (cACons (cVE 1) (cACons (cVE 2) cANil))) cANil))))))
      (sRet (cK (.bool false)))
      sPass))
  (sSeq (sIf (cCmp pyGt (cD (c1 pyLen (cD (cLc (iSeq (cD (cCall ct 22 (cACons (cVE 1) (cACons (cVE 4) (cACons (cVE 2) cANil)))))) [5] (gNm 5) (cNot (cTru (cD (cCall ct 3 (cACons (cCall ct 10 (cACons (cVE 5) (cACons (cVE 2) cANil))) (cACons (cK (.bool false)) cANil)))))) (cD (cK (.int 1))))))) (cD (cK (.int 0))))
    (sRet (cK (.bool false)))
    sPass)
  (sSeq (sFor (iSeq (cD (cLst (cCons (cD (cK (.int 7))) (cCons (cD (cK (.int 8))) (cCons (cD (cK (.int 9))) cNil)))))) (gNm 7)
    (sSeq (sAsgN 8 (c1 pyTuple (cD (c2 pyAdd (cD (cLc (iR1 (cVP 7)) [10] (gNm 10) cYes (cD (cTup (cCons (cD (cK (.str "push"))) (cCons (cD (cVE 10)) cNil)))))) (cD (cLst (cCons (cD (cTup (cCons (cD (cK (.str "add"))) cNil))) (cCons (cD (cTup (cCons (cD (cK (.str "push"))) (cCons (cD (cK (.int 1))) cNil)))) (cCons (cD (cTup (cCons (cD (cK (.str "end"))) cNil))) cNil)))))))))
    (sIf (cOr (cNot (cTru (cD (cCall ct 3 (cACons (cCall ct 10 (cACons (cVE 8) (cACons (cVE 2) cANil))) (cACons (cK (.bool true)) cANil)))))) (cNot (cTru (cD (cCall ct 20 (cACons (cVE 8) (cACons (cCall ct 21 (cACons (cVE 1) (cACons (cVE 2) cANil))) cANil)))))))
      (sRet (cK (.bool false)))
      sPass)))
  (sSeq (sAsgN 9 (c2 pyMul (cD (cCall ct 1 (cACons (cVE 1) (cACons (cK (.int 1000)) cANil)))) (cD (cK (.int 4294967)))))
  (sSeq (sFor (iSeq (cD (cLst (cCons (cD (cVE 9)) (cCons (cD (c1 pyNeg (cVP 9))) (cCons (cD (cK (.int 2147483647))) (cCons (cD (cK (.int 2147483648))) (cCons (cD (c1 pyNeg (cD (cK (.int 2147483648))))) (cCons (cD (c1 pyNeg (cD (cK (.int 2147483649))))) cNil))))))))) (gNm 5)
    (sIf (cNot (cTru (cD (cCall ct 3 (cACons (cCall ct 8 (cACons (cVE 5) cANil)) (cACons (cCall ct 12 (cACons (cVE 5) cANil)) cANil))))))
      (sRet (cK (.bool false)))
      sPass))
  (sRet (cCall ct 3 (cACons (cCall ct 10 (cACons (c2 pyMul (cD (cTup (cCons (cD (cTup (cCons (cD (cK (.str "end"))) cNil))) cNil))) (cD (cK (.int 4000)))) (cACons (cVE 2) cANil))) (cACons (cK (.bool true)) cANil)))))))))))))))
theorem s_law : FnScope x_law.N ["script"] (defScope (topS 45)) := ⟨rfl, rfl, rfl, by decide +kernel, rfl, by decide +kernel, by decide +kernel⟩
theorem c_law (ct : CT) : cmpBody ct 4100 9 9 x_law (defBody (topS 45)) = some (b_law ct 4100) := rfl
def tab : List Fn := libT ++ [⟨4, 5, b_law_instruction⟩, ⟨3, 6, b_law_program⟩, ⟨3, 5, b_law_inserted⟩, ⟨3, 7, b_law_right⟩, ⟨1, 1, b_is_word⟩, ⟨4, 4, b_is_instruction⟩, ⟨2, 4, b_is_program⟩, ⟨3, 6, b_law_made⟩, ⟨1, 1, b_law_is_word⟩, ⟨2, 9, b_law_trace⟩, ⟨3, 3, b_result_of⟩, ⟨3, 5, b_grown⟩, ⟨4, 5, b_stepped⟩, ⟨2, 5, b_trace⟩, ⟨2, 2, b_run⟩, ⟨2, 2, b_steps_of⟩, ⟨2, 4, b_law_run_told⟩, ⟨2, 3, b_law_turn⟩, ⟨3, 9, b_law_wrong⟩, ⟨1, 11, b_law⟩]
theorem tab_lib {i : Nat} {f : Fn} (h : libT[i]? = some f) : tab[i]? = some f := by
  rw [tab, List.getElem?_append_left]
  · exact h
  · exact (List.getElem?_eq_some_iff.mp h).1
/-! ### what the top has written -/
theorem all_mk {P : Program} {w : World} {K : PySem.W.Frag} {h : Heap} {mg : Str → Option Value} {fa : Addr} (X : K.In h) (G : h.Ns mainGlobals mg) (hfa : mg "law" = some (.ref fa)) {k : Nat}
    {f1 : Addr} {od1 an1 : Option Addr} {sl1 : Array (Option Value)} {oc1 kV1 dc1 pm1 cd1 ct1 : Value}
    {f2 : Addr} {od2 an2 : Option Addr} {sl2 : Array (Option Value)} {oc2 kV2 dc2 pm2 cd2 ct2 : Value}
    {f3 : Addr} {od3 an3 : Option Addr} {sl3 : Array (Option Value)} {oc3 kV3 dc3 pm3 cd3 ct3 : Value}
    {f4 : Addr} {od4 an4 : Option Addr} {sl4 : Array (Option Value)} {oc4 kV4 dc4 pm4 cd4 ct4 : Value}
    {f5 : Addr} {od5 an5 : Option Addr} {sl5 : Array (Option Value)} {oc5 kV5 dc5 pm5 cd5 ct5 : Value}
    {f6 : Addr} {od6 an6 : Option Addr} {sl6 : Array (Option Value)} {oc6 kV6 dc6 pm6 cd6 ct6 : Value}
    {f7 : Addr} {od7 an7 : Option Addr} {sl7 : Array (Option Value)} {oc7 kV7 dc7 pm7 cd7 ct7 : Value}
    {f8 : Addr} {od8 an8 : Option Addr} {sl8 : Array (Option Value)} {oc8 kV8 dc8 pm8 cd8 ct8 : Value}
    {f9 : Addr} {od9 an9 : Option Addr} {sl9 : Array (Option Value)} {oc9 kV9 dc9 pm9 cd9 ct9 : Value}
    {f10 : Addr} {od10 an10 : Option Addr} {sl10 : Array (Option Value)} {oc10 kV10 dc10 pm10 cd10 ct10 : Value}
    {f11 : Addr} {od11 an11 : Option Addr} {sl11 : Array (Option Value)} {oc11 kV11 dc11 pm11 cd11 ct11 : Value}
    {f12 : Addr} {od12 an12 : Option Addr} {sl12 : Array (Option Value)} {oc12 kV12 dc12 pm12 cd12 ct12 : Value}
    {f13 : Addr} {od13 an13 : Option Addr} {sl13 : Array (Option Value)} {oc13 kV13 dc13 pm13 cd13 ct13 : Value}
    {f14 : Addr} {od14 an14 : Option Addr} {sl14 : Array (Option Value)} {oc14 kV14 dc14 pm14 cd14 ct14 : Value}
    {f15 : Addr} {od15 an15 : Option Addr} {sl15 : Array (Option Value)} {oc15 kV15 dc15 pm15 cd15 ct15 : Value}
    {f16 : Addr} {od16 an16 : Option Addr} {sl16 : Array (Option Value)} {oc16 kV16 dc16 pm16 cd16 ct16 : Value}
    {f17 : Addr} {od17 an17 : Option Addr} {sl17 : Array (Option Value)} {oc17 kV17 dc17 pm17 cd17 ct17 : Value}
    {f18 : Addr} {od18 an18 : Option Addr} {sl18 : Array (Option Value)} {oc18 kV18 dc18 pm18 cd18 ct18 : Value}
    {f19 : Addr} {od19 an19 : Option Addr} {sl19 : Array (Option Value)} {oc19 kV19 dc19 pm19 cd19 ct19 : Value}
    {f20 : Addr} {od20 an20 : Option Addr} {sl20 : Array (Option Value)} {oc20 kV20 dc20 pm20 cd20 ct20 : Value}
    {f21 : Addr} {od21 an21 : Option Addr} {sl21 : Array (Option Value)} {oc21 kV21 dc21 pm21 cd21 ct21 : Value}
    {f22 : Addr} {od22 an22 : Option Addr} {sl22 : Array (Option Value)} {oc22 kV22 dc22 pm22 cd22 ct22 : Value}
    {f23 : Addr} {od23 an23 : Option Addr} {sl23 : Array (Option Value)} {oc23 kV23 dc23 pm23 cd23 ct23 : Value}
    {f24 : Addr} {od24 an24 : Option Addr} {sl24 : Array (Option Value)} {oc24 kV24 dc24 pm24 cd24 ct24 : Value}
    (a1 : PySem.W.nsIn K mainGlobals "_law_deal" = some (some (.ref f1))) (l1 : K.lookup f1 = some ⟨oc1, od1, .func (PySem.W.fnOf "_law_deal" "_law_deal" (defArgs (topS 31)) (defBody (topS 31)) (defScope (topS 31)) .none kV1 dc1 pm1 an1 cd1 ct1), sl1⟩) (c1 : PySem.W.codeIn K cd1 "_law_deal" = true) (k1 : PySem.W.keepIn K (.ref f1) = true)
    (a2 : PySem.W.nsIn K mainGlobals "_law_same" = some (some (.ref f2))) (l2 : K.lookup f2 = some ⟨oc2, od2, .func (PySem.W.fnOf "_law_same" "_law_same" (defArgs (topS 33)) (defBody (topS 33)) (defScope (topS 33)) .none kV2 dc2 pm2 an2 cd2 ct2), sl2⟩) (c2 : PySem.W.codeIn K cd2 "_law_same" = true) (k2 : PySem.W.keepIn K (.ref f2) = true)
    (a3 : PySem.W.nsIn K mainGlobals "_law_take" = some (some (.ref f3))) (l3 : K.lookup f3 = some ⟨oc3, od3, .func (PySem.W.fnOf "_law_take" "_law_take" (defArgs (topS 32)) (defBody (topS 32)) (defScope (topS 32)) .none kV3 dc3 pm3 an3 cd3 ct3), sl3⟩) (c3 : PySem.W.codeIn K cd3 "_law_take" = true) (k3 : PySem.W.keepIn K (.ref f3) = true)
    (a4 : PySem.W.nsIn K mainGlobals "_law_instruction" = some (some (.ref f4))) (l4 : K.lookup f4 = some ⟨oc4, od4, .func (PySem.W.fnOf "_law_instruction" "_law_instruction" (defArgs (topS 38)) (defBody (topS 38)) (defScope (topS 38)) .none kV4 dc4 pm4 an4 cd4 ct4), sl4⟩) (c4 : PySem.W.codeIn K cd4 "_law_instruction" = true) (k4 : PySem.W.keepIn K (.ref f4) = true)
    (a5 : PySem.W.nsIn K mainGlobals "_law_program" = some (some (.ref f5))) (l5 : K.lookup f5 = some ⟨oc5, od5, .func (PySem.W.fnOf "_law_program" "_law_program" (defArgs (topS 39)) (defBody (topS 39)) (defScope (topS 39)) .none kV5 dc5 pm5 an5 cd5 ct5), sl5⟩) (c5 : PySem.W.codeIn K cd5 "_law_program" = true) (k5 : PySem.W.keepIn K (.ref f5) = true)
    (a6 : PySem.W.nsIn K mainGlobals "_law_inserted" = some (some (.ref f6))) (l6 : K.lookup f6 = some ⟨oc6, od6, .func (PySem.W.fnOf "_law_inserted" "_law_inserted" (defArgs (topS 41)) (defBody (topS 41)) (defScope (topS 41)) .none kV6 dc6 pm6 an6 cd6 ct6), sl6⟩) (c6 : PySem.W.codeIn K cd6 "_law_inserted" = true) (k6 : PySem.W.keepIn K (.ref f6) = true)
    (a7 : PySem.W.nsIn K mainGlobals "_law_right" = some (some (.ref f7))) (l7 : K.lookup f7 = some ⟨oc7, od7, .func (PySem.W.fnOf "_law_right" "_law_right" (defArgs (topS 43)) (defBody (topS 43)) (defScope (topS 43)) .none kV7 dc7 pm7 an7 cd7 ct7), sl7⟩) (c7 : PySem.W.codeIn K cd7 "_law_right" = true) (k7 : PySem.W.keepIn K (.ref f7) = true)
    (a8 : PySem.W.nsIn K mainGlobals "_law_bool" = some (some (.ref f8))) (l8 : K.lookup f8 = some ⟨oc8, od8, .func (PySem.W.fnOf "_law_bool" "_law_bool" (defArgs (topS 34)) (defBody (topS 34)) (defScope (topS 34)) .none kV8 dc8 pm8 an8 cd8 ct8), sl8⟩) (c8 : PySem.W.codeIn K cd8 "_law_bool" = true) (k8 : PySem.W.keepIn K (.ref f8) = true)
    (a9 : PySem.W.nsIn K mainGlobals "is_word" = some (some (.ref f9))) (l9 : K.lookup f9 = some ⟨oc9, od9, .func (PySem.W.fnOf "is_word" "is_word" (defArgs (topS 21)) (defBody (topS 21)) (defScope (topS 21)) .none kV9 dc9 pm9 an9 cd9 ct9), sl9⟩) (c9 : PySem.W.codeIn K cd9 "is_word" = true) (k9 : PySem.W.keepIn K (.ref f9) = true)
    (a10 : PySem.W.nsIn K mainGlobals "is_instruction" = some (some (.ref f10))) (l10 : K.lookup f10 = some ⟨oc10, od10, .func (PySem.W.fnOf "is_instruction" "is_instruction" (defArgs (topS 22)) (defBody (topS 22)) (defScope (topS 22)) .none kV10 dc10 pm10 an10 cd10 ct10), sl10⟩) (c10 : PySem.W.codeIn K cd10 "is_instruction" = true) (k10 : PySem.W.keepIn K (.ref f10) = true)
    (a11 : PySem.W.nsIn K mainGlobals "is_program" = some (some (.ref f11))) (l11 : K.lookup f11 = some ⟨oc11, od11, .func (PySem.W.fnOf "is_program" "is_program" (defArgs (topS 23)) (defBody (topS 23)) (defScope (topS 23)) .none kV11 dc11 pm11 an11 cd11 ct11), sl11⟩) (c11 : PySem.W.codeIn K cd11 "is_program" = true) (k11 : PySem.W.keepIn K (.ref f11) = true)
    (a12 : PySem.W.nsIn K mainGlobals "_law_made" = some (some (.ref f12))) (l12 : K.lookup f12 = some ⟨oc12, od12, .func (PySem.W.fnOf "_law_made" "_law_made" (defArgs (topS 36)) (defBody (topS 36)) (defScope (topS 36)) .none kV12 dc12 pm12 an12 cd12 ct12), sl12⟩) (c12 : PySem.W.codeIn K cd12 "_law_made" = true) (k12 : PySem.W.keepIn K (.ref f12) = true)
    (a13 : PySem.W.nsIn K mainGlobals "_law_is_word" = some (some (.ref f13))) (l13 : K.lookup f13 = some ⟨oc13, od13, .func (PySem.W.fnOf "_law_is_word" "_law_is_word" (defArgs (topS 35)) (defBody (topS 35)) (defScope (topS 35)) .none kV13 dc13 pm13 an13 cd13 ct13), sl13⟩) (c13 : PySem.W.codeIn K cd13 "_law_is_word" = true) (k13 : PySem.W.keepIn K (.ref f13) = true)
    (a14 : PySem.W.nsIn K mainGlobals "_law_trace" = some (some (.ref f14))) (l14 : K.lookup f14 = some ⟨oc14, od14, .func (PySem.W.fnOf "_law_trace" "_law_trace" (defArgs (topS 37)) (defBody (topS 37)) (defScope (topS 37)) .none kV14 dc14 pm14 an14 cd14 ct14), sl14⟩) (c14 : PySem.W.codeIn K cd14 "_law_trace" = true) (k14 : PySem.W.keepIn K (.ref f14) = true)
    (a15 : PySem.W.nsIn K mainGlobals "result_of" = some (some (.ref f15))) (l15 : K.lookup f15 = some ⟨oc15, od15, .func (PySem.W.fnOf "result_of" "result_of" (defArgs (topS 24)) (defBody (topS 24)) (defScope (topS 24)) .none kV15 dc15 pm15 an15 cd15 ct15), sl15⟩) (c15 : PySem.W.codeIn K cd15 "result_of" = true) (k15 : PySem.W.keepIn K (.ref f15) = true)
    (a16 : PySem.W.nsIn K mainGlobals "grown" = some (some (.ref f16))) (l16 : K.lookup f16 = some ⟨oc16, od16, .func (PySem.W.fnOf "grown" "grown" (defArgs (topS 25)) (defBody (topS 25)) (defScope (topS 25)) .none kV16 dc16 pm16 an16 cd16 ct16), sl16⟩) (c16 : PySem.W.codeIn K cd16 "grown" = true) (k16 : PySem.W.keepIn K (.ref f16) = true)
    (a17 : PySem.W.nsIn K mainGlobals "stepped" = some (some (.ref f17))) (l17 : K.lookup f17 = some ⟨oc17, od17, .func (PySem.W.fnOf "stepped" "stepped" (defArgs (topS 26)) (defBody (topS 26)) (defScope (topS 26)) .none kV17 dc17 pm17 an17 cd17 ct17), sl17⟩) (c17 : PySem.W.codeIn K cd17 "stepped" = true) (k17 : PySem.W.keepIn K (.ref f17) = true)
    (a18 : PySem.W.nsIn K mainGlobals "trace" = some (some (.ref f18))) (l18 : K.lookup f18 = some ⟨oc18, od18, .func (PySem.W.fnOf "trace" "trace" (defArgs (topS 27)) (defBody (topS 27)) (defScope (topS 27)) .none kV18 dc18 pm18 an18 cd18 ct18), sl18⟩) (c18 : PySem.W.codeIn K cd18 "trace" = true) (k18 : PySem.W.keepIn K (.ref f18) = true)
    (a19 : PySem.W.nsIn K mainGlobals "run" = some (some (.ref f19))) (l19 : K.lookup f19 = some ⟨oc19, od19, .func (PySem.W.fnOf "run" "run" (defArgs (topS 28)) (defBody (topS 28)) (defScope (topS 28)) .none kV19 dc19 pm19 an19 cd19 ct19), sl19⟩) (c19 : PySem.W.codeIn K cd19 "run" = true) (k19 : PySem.W.keepIn K (.ref f19) = true)
    (a20 : PySem.W.nsIn K mainGlobals "steps_of" = some (some (.ref f20))) (l20 : K.lookup f20 = some ⟨oc20, od20, .func (PySem.W.fnOf "steps_of" "steps_of" (defArgs (topS 29)) (defBody (topS 29)) (defScope (topS 29)) .none kV20 dc20 pm20 an20 cd20 ct20), sl20⟩) (c20 : PySem.W.codeIn K cd20 "steps_of" = true) (k20 : PySem.W.keepIn K (.ref f20) = true)
    (a21 : PySem.W.nsIn K mainGlobals "_law_run_told" = some (some (.ref f21))) (l21 : K.lookup f21 = some ⟨oc21, od21, .func (PySem.W.fnOf "_law_run_told" "_law_run_told" (defArgs (topS 44)) (defBody (topS 44)) (defScope (topS 44)) .none kV21 dc21 pm21 an21 cd21 ct21), sl21⟩) (c21 : PySem.W.codeIn K cd21 "_law_run_told" = true) (k21 : PySem.W.keepIn K (.ref f21) = true)
    (a22 : PySem.W.nsIn K mainGlobals "_law_turn" = some (some (.ref f22))) (l22 : K.lookup f22 = some ⟨oc22, od22, .func (PySem.W.fnOf "_law_turn" "_law_turn" (defArgs (topS 40)) (defBody (topS 40)) (defScope (topS 40)) .none kV22 dc22 pm22 an22 cd22 ct22), sl22⟩) (c22 : PySem.W.codeIn K cd22 "_law_turn" = true) (k22 : PySem.W.keepIn K (.ref f22) = true)
    (a23 : PySem.W.nsIn K mainGlobals "_law_wrong" = some (some (.ref f23))) (l23 : K.lookup f23 = some ⟨oc23, od23, .func (PySem.W.fnOf "_law_wrong" "_law_wrong" (defArgs (topS 42)) (defBody (topS 42)) (defScope (topS 42)) .none kV23 dc23 pm23 an23 cd23 ct23), sl23⟩) (c23 : PySem.W.codeIn K cd23 "_law_wrong" = true) (k23 : PySem.W.keepIn K (.ref f23) = true)
    (a24 : PySem.W.nsIn K mainGlobals "law" = some (some (.ref f24))) (l24 : K.lookup f24 = some ⟨oc24, od24, .func (PySem.W.fnOf "law" "law" (defArgs (topS 45)) (defBody (topS 45)) (defScope (topS 45)) .none kV24 dc24 pm24 an24 cd24 ct24), sl24⟩) (c24 : PySem.W.codeIn K cd24 "law" = true) (k24 : PySem.W.keepIn K (.ref f24) = true)
    {u1 : Value} (q1 : PySem.W.nsIn K mainGlobals "LEAST_WORD" = some (some u1)) (r1 : chk K u1 (.int (-2147483648)) = true)
    {u2 : Value} (q2 : PySem.W.nsIn K mainGlobals "MOST_WORD" = some (some u2)) (r2 : chk K u2 (.int 2147483647) = true)
    {u3 : Value} (q3 : PySem.W.nsIn K mainGlobals "WORDS" = some (some u3)) (r3 : chk K u3 (.tuple [(.str "push"), (.str "reading"), (.str "times"), (.str "add"), (.str "less"), (.str "least"), (.str "ring"), (.str "skip"), (.str "end")]) = true)
    {u4 : Value} (q4 : PySem.W.nsIn K mainGlobals "LENGTHS" = some (some u4)) (r4 : chk K u4 (.tuple [(.int 2), (.int 2), (.int 1), (.int 1), (.int 1), (.int 1), (.int 2), (.int 3), (.int 1)]) = true)
    {u5 : Value} (q5 : PySem.W.nsIn K mainGlobals "PUSH" = some (some u5)) (r5 : chk K u5 (.str "push") = true)
    {u6 : Value} (q6 : PySem.W.nsIn K mainGlobals "RING" = some (some u6)) (r6 : chk K u6 (.str "ring") = true)
    {u7 : Value} (q7 : PySem.W.nsIn K mainGlobals "MOST_TESTS" = some (some u7)) (r7 : chk K u7 (.int 1000) = true)
    {u8 : Value} (q8 : PySem.W.nsIn K mainGlobals "READING" = some (some u8)) (r8 : chk K u8 (.str "reading") = true)
    {u9 : Value} (q9 : PySem.W.nsIn K mainGlobals "SKIP" = some (some u9)) (r9 : chk K u9 (.str "skip") = true)
    {u10 : Value} (q10 : PySem.W.nsIn K mainGlobals "MOST_STEPS" = some (some u10)) (r10 : chk K u10 (.int 4000) = true)
    {u11 : Value} (q11 : PySem.W.nsIn K mainGlobals "END" = some (some u11)) (r11 : chk K u11 (.str "end") = true)
    {u12 : Value} (q12 : PySem.W.nsIn K mainGlobals "TIMES" = some (some u12)) (r12 : chk K u12 (.str "times") = true)
    {u13 : Value} (q13 : PySem.W.nsIn K mainGlobals "ADD" = some (some u13)) (r13 : chk K u13 (.str "add") = true)
    {u14 : Value} (q14 : PySem.W.nsIn K mainGlobals "LESS" = some (some u14)) (r14 : chk K u14 (.str "less") = true)
    {u15 : Value} (q15 : PySem.W.nsIn K mainGlobals "MOST_HEIGHT" = some (some u15)) (r15 : chk K u15 (.int 8) = true)
    {u16 : Value} (q16 : PySem.W.nsIn K mainGlobals "SILENT" = some (some u16)) (r16 : chk K u16 (.str "silent") = true)
    {u17 : Value} (q17 : PySem.W.nsIn K mainGlobals "ON" = some (some u17)) (r17 : chk K u17 (.str "on") = true)
    {u18 : Value} (q18 : PySem.W.nsIn K mainGlobals "BROKEN" = some (some u18)) (r18 : chk K u18 (.str "broken") = true)
    {u19 : Value} (q19 : PySem.W.nsIn K mainGlobals "RINGS" = some (some u19)) (r19 : chk K u19 (.str "rings") = true)
    (z1 : PySem.W.nsIn K mainGlobals "len" = some none)
    (z2 : PySem.W.nsIn K mainGlobals "abs" = some none)
    (z3 : PySem.W.nsIn K mainGlobals "int" = some none)
    (z4 : PySem.W.nsIn K mainGlobals "str" = some none)
    (z5 : PySem.W.nsIn K mainGlobals "sum" = some none)
    (z6 : PySem.W.nsIn K mainGlobals "tuple" = some none)
    (z7 : PySem.W.nsIn K mainGlobals "list" = some none)
    (z8 : PySem.W.nsIn K mainGlobals "min" = some none)
    (z9 : PySem.W.nsIn K mainGlobals "max" = some none)
    (z10 : PySem.W.nsIn K mainGlobals "sorted" = some none)
    (z11 : PySem.W.nsIn K mainGlobals "isinstance" = some none)
    (z12 : PySem.W.nsIn K mainGlobals "range" = some none)
    (z13 : PySem.W.nsIn K mainGlobals "enumerate" = some none)
    (z14 : PySem.W.nsIn K mainGlobals "zip" = some none)
    (z15 : PySem.W.nsIn K mainGlobals "bool" = some none)
    : ∃ fd : FuncData, (∀ (s : Shared) (v : Value), BindsTo s fd ⟨[v], []⟩ [("script", v)]) ∧ ∀ base : Heap, K.In base → base.Ns mainGlobals mg → FnOk P w K mg base CX0 (k + 1) fa fd ["script"] (spF K XC0 true 1 (callN 4100 tab (k + 1) 23)) := by
  have e := hfa.symm.trans (PySem.W.mg_of X G a24)
  cases e
  have F1 := fun_mk (st := topS 31) l1 c1 k1
  have F2 := fun_mk (st := topS 33) l2 c2 k2
  have F3 := fun_mk (st := topS 32) l3 c3 k3
  have F4 := fun_mk (st := topS 38) l4 c4 k4
  have F5 := fun_mk (st := topS 39) l5 c5 k5
  have F6 := fun_mk (st := topS 41) l6 c6 k6
  have F7 := fun_mk (st := topS 43) l7 c7 k7
  have F8 := fun_mk (st := topS 34) l8 c8 k8
  have F9 := fun_mk (st := topS 21) l9 c9 k9
  have F10 := fun_mk (st := topS 22) l10 c10 k10
  have F11 := fun_mk (st := topS 23) l11 c11 k11
  have F12 := fun_mk (st := topS 36) l12 c12 k12
  have F13 := fun_mk (st := topS 35) l13 c13 k13
  have F14 := fun_mk (st := topS 37) l14 c14 k14
  have F15 := fun_mk (st := topS 24) l15 c15 k15
  have F16 := fun_mk (st := topS 25) l16 c16 k16
  have F17 := fun_mk (st := topS 26) l17 c17 k17
  have F18 := fun_mk (st := topS 27) l18 c18 k18
  have F19 := fun_mk (st := topS 28) l19 c19 k19
  have F20 := fun_mk (st := topS 29) l20 c20 k20
  have F21 := fun_mk (st := topS 44) l21 c21 k21
  have F22 := fun_mk (st := topS 40) l22 c22 k22
  have F23 := fun_mk (st := topS 42) l23 c23 k23
  have F24 := fun_mk (st := topS 45) l24 c24 k24
  have hbs : ∀ x ∈ blts, mg x = none := by
    intro x hx
    simp only [blts, List.mem_cons, List.not_mem_nil, or_false] at hx
    rcases hx with rfl | rfl | rfl | rfl | rfl | rfl | rfl | rfl | rfl | rfl | rfl | rfl | rfl | rfl | rfl
    · exact PySem.W.mg_none_of X G z1
    · exact PySem.W.mg_none_of X G z2
    · exact PySem.W.mg_none_of X G z3
    · exact PySem.W.mg_none_of X G z4
    · exact PySem.W.mg_none_of X G z5
    · exact PySem.W.mg_none_of X G z6
    · exact PySem.W.mg_none_of X G z7
    · exact PySem.W.mg_none_of X G z8
    · exact PySem.W.mg_none_of X G z9
    · exact PySem.W.mg_none_of X G z10
    · exact PySem.W.mg_none_of X G z11
    · exact PySem.W.mg_none_of X G z12
    · exact PySem.W.mg_none_of X G z13
    · exact PySem.W.mg_none_of X G z14
    · exact PySem.W.mg_none_of X G z15
  have hcs : ∀ x d, cs.lookup x = some d → CsOk K mg x d := by
    refine csAll ?_
    intro y hy
    simp only [cs, List.mem_cons, List.not_mem_nil, or_false] at hy
    rcases hy with rfl | rfl | rfl | rfl | rfl | rfl | rfl | rfl | rfl | rfl | rfl | rfl | rfl | rfl | rfl | rfl | rfl | rfl | rfl
    · exact csOk_mk (PySem.W.mg_of X G q1) r1
    · exact csOk_mk (PySem.W.mg_of X G q2) r2
    · exact csOk_mk (PySem.W.mg_of X G q3) r3
    · exact csOk_mk (PySem.W.mg_of X G q4) r4
    · exact csOk_mk (PySem.W.mg_of X G q5) r5
    · exact csOk_mk (PySem.W.mg_of X G q6) r6
    · exact csOk_mk (PySem.W.mg_of X G q7) r7
    · exact csOk_mk (PySem.W.mg_of X G q8) r8
    · exact csOk_mk (PySem.W.mg_of X G q9) r9
    · exact csOk_mk (PySem.W.mg_of X G q10) r10
    · exact csOk_mk (PySem.W.mg_of X G q11) r11
    · exact csOk_mk (PySem.W.mg_of X G q12) r12
    · exact csOk_mk (PySem.W.mg_of X G q13) r13
    · exact csOk_mk (PySem.W.mg_of X G q14) r14
    · exact csOk_mk (PySem.W.mg_of X G q15) r15
    · exact csOk_mk (PySem.W.mg_of X G q16) r16
    · exact csOk_mk (PySem.W.mg_of X G q17) r17
    · exact csOk_mk (PySem.W.mg_of X G q18) r18
    · exact csOk_mk (PySem.W.mg_of X G q19) r19
  have D : ∀ x i ar, fns.lookup x = some (i, ar) → DefOk K mg tab fns cs 4100 9 9 x i ar := by
    refine fnsAll ?_
    intro y hy
    simp only [fns, List.mem_cons, List.not_mem_nil, or_false] at hy
    rcases hy with rfl | rfl | rfl | rfl | rfl | rfl | rfl | rfl | rfl | rfl | rfl | rfl | rfl | rfl | rfl | rfl | rfl | rfl | rfl | rfl | rfl | rfl | rfl
    · exact ⟨_, x_law_deal, topS 31, f1, _, ["script"], rfl, rfl, rfl, rfl, rfl, rfl, F1, PySem.W.mg_of X G a1, s_law_deal, rfl, F1.binds (ps := ["script"]) fun _ _ _ _ _ _ us hl => match us, hl with | [_], _ => rfl, rfl, by decide +kernel, fun ct => c_law_deal ct⟩
    · exact ⟨_, x_law_same, topS 33, f2, _, ["a", "b"], rfl, rfl, rfl, rfl, rfl, rfl, F2, PySem.W.mg_of X G a2, s_law_same, rfl, F2.binds (ps := ["a", "b"]) fun _ _ _ _ _ _ us hl => match us, hl with | [_, _], _ => rfl, rfl, by decide +kernel, fun ct => c_law_same ct⟩
    · exact ⟨_, x_law_take, topS 32, f3, _, ["deal", "many"], rfl, rfl, rfl, rfl, rfl, rfl, F3, PySem.W.mg_of X G a3, s_law_take, rfl, F3.binds (ps := ["deal", "many"]) fun _ _ _ _ _ _ us hl => match us, hl with | [_, _], _ => rfl, rfl, by decide +kernel, fun ct => c_law_take ct⟩
    · exact ⟨_, x_law_instruction, topS 38, f4, _, ["deal", "place", "many", "gauges"], rfl, rfl, rfl, rfl, rfl, rfl, F4, PySem.W.mg_of X G a4, s_law_instruction, rfl, F4.binds (ps := ["deal", "place", "many", "gauges"]) fun _ _ _ _ _ _ us hl => match us, hl with | [_, _, _, _], _ => rfl, rfl, by decide +kernel, fun ct => c_law_instruction ct⟩
    · exact ⟨_, x_law_program, topS 39, f5, _, ["deal", "size", "gauges"], rfl, rfl, rfl, rfl, rfl, rfl, F5, PySem.W.mg_of X G a5, s_law_program, rfl, F5.binds (ps := ["deal", "size", "gauges"]) fun _ _ _ _ _ _ us hl => match us, hl with | [_, _, _], _ => rfl, rfl, by decide +kernel, fun ct => c_law_program ct⟩
    · exact ⟨_, x_law_inserted, topS 41, f6, _, ["program", "place", "row"], rfl, rfl, rfl, rfl, rfl, rfl, F6, PySem.W.mg_of X G a6, s_law_inserted, rfl, F6.binds (ps := ["program", "place", "row"]) fun _ _ _ _ _ _ us hl => match us, hl with | [_, _, _], _ => rfl, rfl, by decide +kernel, fun ct => c_law_inserted ct⟩
    · exact ⟨_, x_law_right, topS 43, f7, _, ["deal", "program", "gauges"], rfl, rfl, rfl, rfl, rfl, rfl, F7, PySem.W.mg_of X G a7, s_law_right, rfl, F7.binds (ps := ["deal", "program", "gauges"]) fun _ _ _ _ _ _ us hl => match us, hl with | [_, _, _], _ => rfl, rfl, by decide +kernel, fun ct => c_law_right ct⟩
    · exact ⟨_, x_law_bool, topS 34, f8, _, ["answer", "due"], rfl, rfl, rfl, rfl, rfl, rfl, F8, PySem.W.mg_of X G a8, s_law_bool, rfl, F8.binds (ps := ["answer", "due"]) fun _ _ _ _ _ _ us hl => match us, hl with | [_, _], _ => rfl, rfl, by decide +kernel, fun ct => c_law_bool ct⟩
    · exact ⟨_, x_is_word, topS 21, f9, _, ["n"], rfl, rfl, rfl, rfl, rfl, rfl, F9, PySem.W.mg_of X G a9, s_is_word, rfl, F9.binds (ps := ["n"]) fun _ _ _ _ _ _ us hl => match us, hl with | [_], _ => rfl, rfl, by decide +kernel, fun ct => c_is_word ct⟩
    · exact ⟨_, x_is_instruction, topS 22, f10, _, ["instruction", "place", "many", "gauges"], rfl, rfl, rfl, rfl, rfl, rfl, F10, PySem.W.mg_of X G a10, s_is_instruction, rfl, F10.binds (ps := ["instruction", "place", "many", "gauges"]) fun _ _ _ _ _ _ us hl => match us, hl with | [_, _, _, _], _ => rfl, rfl, by decide +kernel, fun ct => c_is_instruction ct⟩
    · exact ⟨_, x_is_program, topS 23, f11, _, ["program", "gauges"], rfl, rfl, rfl, rfl, rfl, rfl, F11, PySem.W.mg_of X G a11, s_is_program, rfl, F11.binds (ps := ["program", "gauges"]) fun _ _ _ _ _ _ us hl => match us, hl with | [_, _], _ => rfl, rfl, by decide +kernel, fun ct => c_is_program ct⟩
    · exact ⟨_, x_law_made, topS 36, f12, _, ["instruction", "turn", "stack"], rfl, rfl, rfl, rfl, rfl, rfl, F12, PySem.W.mg_of X G a12, s_law_made, rfl, F12.binds (ps := ["instruction", "turn", "stack"]) fun _ _ _ _ _ _ us hl => match us, hl with | [_, _, _], _ => rfl, rfl, by decide +kernel, fun ct => c_law_made ct⟩
    · exact ⟨_, x_law_is_word, topS 35, f13, _, ["n"], rfl, rfl, rfl, rfl, rfl, rfl, F13, PySem.W.mg_of X G a13, s_law_is_word, rfl, F13.binds (ps := ["n"]) fun _ _ _ _ _ _ us hl => match us, hl with | [_], _ => rfl, rfl, by decide +kernel, fun ct => c_law_is_word ct⟩
    · exact ⟨_, x_law_trace, topS 37, f14, _, ["program", "turn"], rfl, rfl, rfl, rfl, rfl, rfl, F14, PySem.W.mg_of X G a14, s_law_trace, rfl, F14.binds (ps := ["program", "turn"]) fun _ _ _ _ _ _ us hl => match us, hl with | [_, _], _ => rfl, rfl, by decide +kernel, fun ct => c_law_trace ct⟩
    · exact ⟨_, x_result_of, topS 24, f15, _, ["word", "a", "b"], rfl, rfl, rfl, rfl, rfl, rfl, F15, PySem.W.mg_of X G a15, s_result_of, rfl, F15.binds (ps := ["word", "a", "b"]) fun _ _ _ _ _ _ us hl => match us, hl with | [_, _, _], _ => rfl, rfl, by decide +kernel, fun ct => c_result_of ct⟩
    · exact ⟨_, x_grown, topS 25, f16, _, ["instruction", "turn", "stack"], rfl, rfl, rfl, rfl, rfl, rfl, F16, PySem.W.mg_of X G a16, s_grown, rfl, F16.binds (ps := ["instruction", "turn", "stack"]) fun _ _ _ _ _ _ us hl => match us, hl with | [_, _, _], _ => rfl, rfl, by decide +kernel, fun ct => c_grown ct⟩
    · exact ⟨_, x_stepped, topS 26, f17, _, ["program", "turn", "place", "stack"], rfl, rfl, rfl, rfl, rfl, rfl, F17, PySem.W.mg_of X G a17, s_stepped, rfl, F17.binds (ps := ["program", "turn", "place", "stack"]) fun _ _ _ _ _ _ us hl => match us, hl with | [_, _, _, _], _ => rfl, rfl, by decide +kernel, fun ct => c_stepped ct⟩
    · exact ⟨_, x_trace, topS 27, f18, _, ["program", "turn"], rfl, rfl, rfl, rfl, rfl, rfl, F18, PySem.W.mg_of X G a18, s_trace, rfl, F18.binds (ps := ["program", "turn"]) fun _ _ _ _ _ _ us hl => match us, hl with | [_, _], _ => rfl, rfl, by decide +kernel, fun ct => c_trace ct⟩
    · exact ⟨_, x_run, topS 28, f19, _, ["program", "turn"], rfl, rfl, rfl, rfl, rfl, rfl, F19, PySem.W.mg_of X G a19, s_run, rfl, F19.binds (ps := ["program", "turn"]) fun _ _ _ _ _ _ us hl => match us, hl with | [_, _], _ => rfl, rfl, by decide +kernel, fun ct => c_run ct⟩
    · exact ⟨_, x_steps_of, topS 29, f20, _, ["program", "turn"], rfl, rfl, rfl, rfl, rfl, rfl, F20, PySem.W.mg_of X G a20, s_steps_of, rfl, F20.binds (ps := ["program", "turn"]) fun _ _ _ _ _ _ us hl => match us, hl with | [_, _], _ => rfl, rfl, by decide +kernel, fun ct => c_steps_of ct⟩
    · exact ⟨_, x_law_run_told, topS 44, f21, _, ["program", "turn"], rfl, rfl, rfl, rfl, rfl, rfl, F21, PySem.W.mg_of X G a21, s_law_run_told, rfl, F21.binds (ps := ["program", "turn"]) fun _ _ _ _ _ _ us hl => match us, hl with | [_, _], _ => rfl, rfl, by decide +kernel, fun ct => c_law_run_told ct⟩
    · exact ⟨_, x_law_turn, topS 40, f22, _, ["deal", "gauges"], rfl, rfl, rfl, rfl, rfl, rfl, F22, PySem.W.mg_of X G a22, s_law_turn, rfl, F22.binds (ps := ["deal", "gauges"]) fun _ _ _ _ _ _ us hl => match us, hl with | [_, _], _ => rfl, rfl, by decide +kernel, fun ct => c_law_turn ct⟩
    · exact ⟨_, x_law_wrong, topS 42, f23, _, ["deal", "program", "gauges"], rfl, rfl, rfl, rfl, rfl, rfl, F23, PySem.W.mg_of X G a23, s_law_wrong, rfl, F23.binds (ps := ["deal", "program", "gauges"]) fun _ _ _ _ _ _ us hl => match us, hl with | [_, _, _], _ => rfl, rfl, by decide +kernel, fun ct => c_law_wrong ct⟩
  refine ⟨PySem.W.fnOf "law" "law" (defArgs (topS 45)) (defBody (topS 45)) (defScope (topS 45)) .none kV24 dc24 pm24 an24 cd24 ct24, fun s v => .of_eq rfl, fun base _ _ => ?_⟩
  rw [callN_at (f := ⟨1, x_law.N.length, b_law⟩) rfl]
  exact fn_ok (c := x_law) F24 s_law rfl rfl (by decide +kernel) hbs (fun x i n h => tab_ok hbs hcs D k x i n h) hcs (c_law _)
end
end K74
namespace K74
noncomputable section
open PySem FD
@[simp] theorem w_push_reading : (Str.ofString "push" == Str.ofString "reading") = false := by decide
@[simp] theorem w_push_times : (Str.ofString "push" == Str.ofString "times") = false := by decide
@[simp] theorem w_push_add : (Str.ofString "push" == Str.ofString "add") = false := by decide
@[simp] theorem w_push_less : (Str.ofString "push" == Str.ofString "less") = false := by decide
@[simp] theorem w_push_least : (Str.ofString "push" == Str.ofString "least") = false := by decide
@[simp] theorem w_push_ring : (Str.ofString "push" == Str.ofString "ring") = false := by decide
@[simp] theorem w_push_skip : (Str.ofString "push" == Str.ofString "skip") = false := by decide
@[simp] theorem w_push_end : (Str.ofString "push" == Str.ofString "end") = false := by decide
@[simp] theorem w_reading_push : (Str.ofString "reading" == Str.ofString "push") = false := by decide
@[simp] theorem w_reading_times : (Str.ofString "reading" == Str.ofString "times") = false := by decide
@[simp] theorem w_reading_add : (Str.ofString "reading" == Str.ofString "add") = false := by decide
@[simp] theorem w_reading_less : (Str.ofString "reading" == Str.ofString "less") = false := by decide
@[simp] theorem w_reading_least : (Str.ofString "reading" == Str.ofString "least") = false := by decide
@[simp] theorem w_reading_ring : (Str.ofString "reading" == Str.ofString "ring") = false := by decide
@[simp] theorem w_reading_skip : (Str.ofString "reading" == Str.ofString "skip") = false := by decide
@[simp] theorem w_reading_end : (Str.ofString "reading" == Str.ofString "end") = false := by decide
@[simp] theorem w_times_push : (Str.ofString "times" == Str.ofString "push") = false := by decide
@[simp] theorem w_times_reading : (Str.ofString "times" == Str.ofString "reading") = false := by decide
@[simp] theorem w_times_add : (Str.ofString "times" == Str.ofString "add") = false := by decide
@[simp] theorem w_times_less : (Str.ofString "times" == Str.ofString "less") = false := by decide
@[simp] theorem w_times_least : (Str.ofString "times" == Str.ofString "least") = false := by decide
@[simp] theorem w_times_ring : (Str.ofString "times" == Str.ofString "ring") = false := by decide
@[simp] theorem w_times_skip : (Str.ofString "times" == Str.ofString "skip") = false := by decide
@[simp] theorem w_times_end : (Str.ofString "times" == Str.ofString "end") = false := by decide
@[simp] theorem w_add_push : (Str.ofString "add" == Str.ofString "push") = false := by decide
@[simp] theorem w_add_reading : (Str.ofString "add" == Str.ofString "reading") = false := by decide
@[simp] theorem w_add_times : (Str.ofString "add" == Str.ofString "times") = false := by decide
@[simp] theorem w_add_less : (Str.ofString "add" == Str.ofString "less") = false := by decide
@[simp] theorem w_add_least : (Str.ofString "add" == Str.ofString "least") = false := by decide
@[simp] theorem w_add_ring : (Str.ofString "add" == Str.ofString "ring") = false := by decide
@[simp] theorem w_add_skip : (Str.ofString "add" == Str.ofString "skip") = false := by decide
@[simp] theorem w_add_end : (Str.ofString "add" == Str.ofString "end") = false := by decide
@[simp] theorem w_less_push : (Str.ofString "less" == Str.ofString "push") = false := by decide
@[simp] theorem w_less_reading : (Str.ofString "less" == Str.ofString "reading") = false := by decide
@[simp] theorem w_less_times : (Str.ofString "less" == Str.ofString "times") = false := by decide
@[simp] theorem w_less_add : (Str.ofString "less" == Str.ofString "add") = false := by decide
@[simp] theorem w_less_least : (Str.ofString "less" == Str.ofString "least") = false := by decide
@[simp] theorem w_less_ring : (Str.ofString "less" == Str.ofString "ring") = false := by decide
@[simp] theorem w_less_skip : (Str.ofString "less" == Str.ofString "skip") = false := by decide
@[simp] theorem w_less_end : (Str.ofString "less" == Str.ofString "end") = false := by decide
@[simp] theorem w_least_push : (Str.ofString "least" == Str.ofString "push") = false := by decide
@[simp] theorem w_least_reading : (Str.ofString "least" == Str.ofString "reading") = false := by decide
@[simp] theorem w_least_times : (Str.ofString "least" == Str.ofString "times") = false := by decide
@[simp] theorem w_least_add : (Str.ofString "least" == Str.ofString "add") = false := by decide
@[simp] theorem w_least_less : (Str.ofString "least" == Str.ofString "less") = false := by decide
@[simp] theorem w_least_ring : (Str.ofString "least" == Str.ofString "ring") = false := by decide
@[simp] theorem w_least_skip : (Str.ofString "least" == Str.ofString "skip") = false := by decide
@[simp] theorem w_least_end : (Str.ofString "least" == Str.ofString "end") = false := by decide
@[simp] theorem w_ring_push : (Str.ofString "ring" == Str.ofString "push") = false := by decide
@[simp] theorem w_ring_reading : (Str.ofString "ring" == Str.ofString "reading") = false := by decide
@[simp] theorem w_ring_times : (Str.ofString "ring" == Str.ofString "times") = false := by decide
@[simp] theorem w_ring_add : (Str.ofString "ring" == Str.ofString "add") = false := by decide
@[simp] theorem w_ring_less : (Str.ofString "ring" == Str.ofString "less") = false := by decide
@[simp] theorem w_ring_least : (Str.ofString "ring" == Str.ofString "least") = false := by decide
@[simp] theorem w_ring_skip : (Str.ofString "ring" == Str.ofString "skip") = false := by decide
@[simp] theorem w_ring_end : (Str.ofString "ring" == Str.ofString "end") = false := by decide
@[simp] theorem w_skip_push : (Str.ofString "skip" == Str.ofString "push") = false := by decide
@[simp] theorem w_skip_reading : (Str.ofString "skip" == Str.ofString "reading") = false := by decide
@[simp] theorem w_skip_times : (Str.ofString "skip" == Str.ofString "times") = false := by decide
@[simp] theorem w_skip_add : (Str.ofString "skip" == Str.ofString "add") = false := by decide
@[simp] theorem w_skip_less : (Str.ofString "skip" == Str.ofString "less") = false := by decide
@[simp] theorem w_skip_least : (Str.ofString "skip" == Str.ofString "least") = false := by decide
@[simp] theorem w_skip_ring : (Str.ofString "skip" == Str.ofString "ring") = false := by decide
@[simp] theorem w_skip_end : (Str.ofString "skip" == Str.ofString "end") = false := by decide
@[simp] theorem w_end_push : (Str.ofString "end" == Str.ofString "push") = false := by decide
@[simp] theorem w_end_reading : (Str.ofString "end" == Str.ofString "reading") = false := by decide
@[simp] theorem w_end_times : (Str.ofString "end" == Str.ofString "times") = false := by decide
@[simp] theorem w_end_add : (Str.ofString "end" == Str.ofString "add") = false := by decide
@[simp] theorem w_end_less : (Str.ofString "end" == Str.ofString "less") = false := by decide
@[simp] theorem w_end_least : (Str.ofString "end" == Str.ofString "least") = false := by decide
@[simp] theorem w_end_ring : (Str.ofString "end" == Str.ofString "ring") = false := by decide
@[simp] theorem w_end_skip : (Str.ofString "end" == Str.ofString "skip") = false := by decide
@[simp] theorem w_silent_on : (Str.ofString "silent" == Str.ofString "on") = false := by decide
@[simp] theorem w_rings_on : (Str.ofString "rings" == Str.ofString "on") = false := by decide
@[simp] theorem w_broken_on : (Str.ofString "broken" == Str.ofString "on") = false := by decide
@[simp] theorem sok_push : PyData.strOk (Str.ofString "push") = true := by decide +kernel
@[simp] theorem sok_reading : PyData.strOk (Str.ofString "reading") = true := by decide +kernel
@[simp] theorem sok_times : PyData.strOk (Str.ofString "times") = true := by decide +kernel
@[simp] theorem sok_add : PyData.strOk (Str.ofString "add") = true := by decide +kernel
@[simp] theorem sok_less : PyData.strOk (Str.ofString "less") = true := by decide +kernel
@[simp] theorem sok_least : PyData.strOk (Str.ofString "least") = true := by decide +kernel
@[simp] theorem sok_ring : PyData.strOk (Str.ofString "ring") = true := by decide +kernel
@[simp] theorem sok_skip : PyData.strOk (Str.ofString "skip") = true := by decide +kernel
@[simp] theorem sok_end : PyData.strOk (Str.ofString "end") = true := by decide +kernel
@[simp] theorem sok_silent : PyData.strOk (Str.ofString "silent") = true := by decide +kernel
@[simp] theorem sok_rings : PyData.strOk (Str.ofString "rings") = true := by decide +kernel
@[simp] theorem sok_broken : PyData.strOk (Str.ofString "broken") = true := by decide +kernel
@[simp] theorem sok_on : PyData.strOk (Str.ofString "on") = true := by decide +kernel
theorem in_push : pyNotIn (.str "push") (.tuple [(.str "push"), (.str "reading"), (.str "times"), (.str "add"), (.str "less"), (.str "least"), (.str "ring"), (.str "skip"), (.str "end")]) = some false := by simp [pyNotIn, pyIn]
theorem ix_push : pyIndexK (.tuple [(.str "push"), (.str "reading"), (.str "times"), (.str "add"), (.str "less"), (.str "least"), (.str "ring"), (.str "skip"), (.str "end")]) (.str "push") = some (.fz (.int 0)) := by simp [pyIndexK, firstIx]
theorem in_reading : pyNotIn (.str "reading") (.tuple [(.str "push"), (.str "reading"), (.str "times"), (.str "add"), (.str "less"), (.str "least"), (.str "ring"), (.str "skip"), (.str "end")]) = some false := by simp [pyNotIn, pyIn]
theorem ix_reading : pyIndexK (.tuple [(.str "push"), (.str "reading"), (.str "times"), (.str "add"), (.str "less"), (.str "least"), (.str "ring"), (.str "skip"), (.str "end")]) (.str "reading") = some (.fz (.int 1)) := by simp [pyIndexK, firstIx]
theorem in_times : pyNotIn (.str "times") (.tuple [(.str "push"), (.str "reading"), (.str "times"), (.str "add"), (.str "less"), (.str "least"), (.str "ring"), (.str "skip"), (.str "end")]) = some false := by simp [pyNotIn, pyIn]
theorem ix_times : pyIndexK (.tuple [(.str "push"), (.str "reading"), (.str "times"), (.str "add"), (.str "less"), (.str "least"), (.str "ring"), (.str "skip"), (.str "end")]) (.str "times") = some (.fz (.int 2)) := by simp [pyIndexK, firstIx]
theorem in_add : pyNotIn (.str "add") (.tuple [(.str "push"), (.str "reading"), (.str "times"), (.str "add"), (.str "less"), (.str "least"), (.str "ring"), (.str "skip"), (.str "end")]) = some false := by simp [pyNotIn, pyIn]
theorem ix_add : pyIndexK (.tuple [(.str "push"), (.str "reading"), (.str "times"), (.str "add"), (.str "less"), (.str "least"), (.str "ring"), (.str "skip"), (.str "end")]) (.str "add") = some (.fz (.int 3)) := by simp [pyIndexK, firstIx]
theorem in_less : pyNotIn (.str "less") (.tuple [(.str "push"), (.str "reading"), (.str "times"), (.str "add"), (.str "less"), (.str "least"), (.str "ring"), (.str "skip"), (.str "end")]) = some false := by simp [pyNotIn, pyIn]
theorem ix_less : pyIndexK (.tuple [(.str "push"), (.str "reading"), (.str "times"), (.str "add"), (.str "less"), (.str "least"), (.str "ring"), (.str "skip"), (.str "end")]) (.str "less") = some (.fz (.int 4)) := by simp [pyIndexK, firstIx]
theorem in_least : pyNotIn (.str "least") (.tuple [(.str "push"), (.str "reading"), (.str "times"), (.str "add"), (.str "less"), (.str "least"), (.str "ring"), (.str "skip"), (.str "end")]) = some false := by simp [pyNotIn, pyIn]
theorem ix_least : pyIndexK (.tuple [(.str "push"), (.str "reading"), (.str "times"), (.str "add"), (.str "less"), (.str "least"), (.str "ring"), (.str "skip"), (.str "end")]) (.str "least") = some (.fz (.int 5)) := by simp [pyIndexK, firstIx]
theorem in_ring : pyNotIn (.str "ring") (.tuple [(.str "push"), (.str "reading"), (.str "times"), (.str "add"), (.str "less"), (.str "least"), (.str "ring"), (.str "skip"), (.str "end")]) = some false := by simp [pyNotIn, pyIn]
theorem ix_ring : pyIndexK (.tuple [(.str "push"), (.str "reading"), (.str "times"), (.str "add"), (.str "less"), (.str "least"), (.str "ring"), (.str "skip"), (.str "end")]) (.str "ring") = some (.fz (.int 6)) := by simp [pyIndexK, firstIx]
theorem in_skip : pyNotIn (.str "skip") (.tuple [(.str "push"), (.str "reading"), (.str "times"), (.str "add"), (.str "less"), (.str "least"), (.str "ring"), (.str "skip"), (.str "end")]) = some false := by simp [pyNotIn, pyIn]
theorem ix_skip : pyIndexK (.tuple [(.str "push"), (.str "reading"), (.str "times"), (.str "add"), (.str "less"), (.str "least"), (.str "ring"), (.str "skip"), (.str "end")]) (.str "skip") = some (.fz (.int 7)) := by simp [pyIndexK, firstIx]
theorem in_end : pyNotIn (.str "end") (.tuple [(.str "push"), (.str "reading"), (.str "times"), (.str "add"), (.str "less"), (.str "least"), (.str "ring"), (.str "skip"), (.str "end")]) = some false := by simp [pyNotIn, pyIn]
theorem ix_end : pyIndexK (.tuple [(.str "push"), (.str "reading"), (.str "times"), (.str "add"), (.str "less"), (.str "least"), (.str "ring"), (.str "skip"), (.str "end")]) (.str "end") = some (.fz (.int 8)) := by simp [pyIndexK, firstIx]
inductive Ins where
  | push (n : Int) | reading (j : Int) | times | add | less | least | ring (t : Int) | skip (j p : Int) | fin
def enc : Ins → D
  | .push n => .tuple [.str "push", .int n]
  | .reading j => .tuple [.str "reading", .int j]
  | .times => .tuple [.str "times"]
  | .add => .tuple [.str "add"]
  | .less => .tuple [.str "less"]
  | .least => .tuple [.str "least"]
  | .ring t => .tuple [.str "ring", .int t]
  | .skip j p => .tuple [.str "skip", .int j, .int p]
  | .fin => .tuple [.str "end"]
def isW (n : Int) : Prop := -2147483648 ≤ n ∧ n ≤ 2147483647
def Va (gs : Nat) (many : Nat) (place : Nat) : Ins → Prop
  | .push n => isW n
  | .reading j => 0 ≤ j ∧ j < gs
  | .ring t => 0 ≤ t ∧ t < 1000
  | .skip j p => (0 ≤ j ∧ j < gs) ∧ (place < p ∧ p < many)
  | _ => True
section
variable {k : Nat} {g : G}
theorem is_word_ok (n : Int) : callN 4100 tab (k + 1) 8 [.fz (.int n)] g = .ok (.fz (.bool (decide (-2147483648 ≤ n) && decide (n ≤ 2147483647)))) g := by
  rw [callN_at (f := ⟨1, 1, b_is_word⟩) rfl]
  by_cases q : -2147483648 ≤ n <;> simp [semF, runF, b_is_word, q]
theorem law_is_word_ok (n : Int) : callN 4100 tab (k + 1) 12 [.fz (.int n)] g = .ok (.fz (.bool (decide (-2147483648 ≤ n) && decide (n ≤ 2147483647)))) g := by
  rw [callN_at (f := ⟨1, 1, b_law_is_word⟩) rfl]
  by_cases q : -2147483648 ≤ n <;> simp [semF, runF, b_law_is_word, q]
theorem ix0 (x : D) (r : List D) : pyIx (.tuple (x :: r)) (.int 0) = some (.fz x) := ixU (n := 0) rfl rfl
theorem ix1 (x y : D) (r : List D) : pyIx (.tuple (x :: y :: r)) (.int 1) = some (.fz y) := ixU (n := 1) rfl rfl
theorem ix2 (x y z : D) (r : List D) : pyIx (.tuple (x :: y :: z :: r)) (.int 2) = some (.fz z) := ixU (n := 2) rfl rfl
theorem is_instruction_ok {gs many place : Nat} {x : Ins} (h : Va gs many place x) : callN 4100 tab (k + 2) 9 [.fz (enc x), .fz (.int place), .fz (.int many), .fz (.int gs)] g = .ok (.fz (.bool true)) g := by
  rw [callN_at (f := ⟨4, 4, b_is_instruction⟩) rfl]
  have i0 : ∀ x (r : List D), pyIx (.tuple (x :: r)) (.int 0) = some (.fz x) := ix0
  have l (n : Nat) (x : D) (h : [(.int 2), (.int 2), (.int 1), (.int 1), (.int 1), (.int 1), (.int 2), (.int 3), (.int 1)][n]? = some x) : pyIx (.tuple [(.int 2), (.int 2), (.int 1), (.int 1), (.int 1), (.int 1), (.int 2), (.int 3), (.int 1)]) (.int n) = some (.fz x) := ixU rfl h
  have l0 := l 0 _ rfl
  have l1 := l 1 _ rfl
  have l2 := l 2 _ rfl
  have l3 := l 3 _ rfl
  have l4 := l 4 _ rfl
  have l5 := l 5 _ rfl
  have l6 := l 6 _ rfl
  have l7 := l 7 _ rfl
  have l8 := l 8 _ rfl
  cases x with
  | push n =>
    obtain ⟨h1, h2⟩ := h
    simp [semF, runF, b_is_instruction, enc, ix0, ix1, is_word_ok, h1, h2, in_push, ix_push]
  | reading n =>
    obtain ⟨h1, h2⟩ := h
    simp at l1
    simp [semF, runF, b_is_instruction, enc, ix0, ix1, l1, h1, h2, in_reading, ix_reading]
  | ring n =>
    obtain ⟨h1, h2⟩ := h
    simp at l6
    simp [semF, runF, b_is_instruction, enc, ix0, ix1, l6, h1, h2, in_ring, ix_ring]
  | times =>
    simp at l2
    simp [semF, runF, b_is_instruction, enc, ix0, l2, in_times, ix_times]
  | add =>
    simp at l3
    simp [semF, runF, b_is_instruction, enc, ix0, l3, in_add, ix_add]
  | less =>
    simp at l4
    simp [semF, runF, b_is_instruction, enc, ix0, l4, in_less, ix_less]
  | least =>
    simp at l5
    simp [semF, runF, b_is_instruction, enc, ix0, l5, in_least, ix_least]
  | skip j p =>
    obtain ⟨⟨h1, h2⟩, h3, h4⟩ := h
    simp at l7
    simp [semF, runF, b_is_instruction, enc, ix0, ix1, ix2, l7, h1, h2, h3, h4, in_skip, ix_skip]
  | fin =>
    simp at l8
    simp [semF, runF, b_is_instruction, enc, ix0, l8, in_end, ix_end]
/-! ### a program that is one -/
structure Pr (gs : Nat) (P : List Ins) : Prop where
  lo : 1 ≤ P.length
  hi : P.length ≤ 4000
  va : ∀ i x, P[i]? = some x → Va gs P.length i x
  la : P[P.length - 1]? = some .fin
def encP (P : List Ins) : D := .tuple (P.map enc)
theorem enum_at : ∀ (xs : List D) (n : Nat) (y : D), y ∈ enumD n xs → ∃ i x, xs[i]? = some x ∧ y = .tuple [.int ((n + i : Nat) : Int), x]
  | [], _, _, h => absurd h (by simp [enumD])
  | x :: r, n, y, h => by
    rw [enumD, List.mem_cons] at h
    rcases h with rfl | h
    · exact ⟨0, x, rfl, rfl⟩
    · obtain ⟨i, z, h1, h2⟩ := enum_at r (n + 1) y h
      exact ⟨i + 1, z, h1, by rw [h2, show n + 1 + i = n + (i + 1) by omega]⟩
theorem is_program_loop {gs : Nat} {P : List Ins} (h : Pr gs P) : ∀ xs : List D, (∀ y ∈ xs, ∃ (i : Nat) (x : Ins), P[i]? = some x ∧ y = .tuple [.int i, enc x]) →
    forL (gTp 2 (gC (gNm 2) (gC (gNm 3) gN))) (sIf (cNot (cTru (cD (cCall (callN 4100 tab (k + 2)) 9 (cACons (cVE 3) (cACons (cVE 2) (cACons (c1 pyLen (cVP 0)) (cACons (cVE 1) cANil))))))))
      (sRet (cK (.bool false)))
      sPass) xs [some (.fz (encP P)), some (.fz (.int gs)), none, none] g = .ok .nx [some (.fz (encP P)), some (.fz (.int gs)), none, none] g
  | [], _ => rfl
  | y :: r, hy => by
    obtain ⟨i, x, h1, rfl⟩ := hy y List.mem_cons_self
    have ih := is_program_loop h r fun y hy' => hy y (List.mem_cons_of_mem _ hy')
    have e := is_instruction_ok (k := k) (g := g) (h.va i x h1)
    unfold encP at ih ⊢
    simp [forL, e, ih]
theorem is_program_ok {gs : Nat} {P : List Ins} (h : Pr gs P) : callN 4100 tab (k + 3) 10 [.fz (encP P), .fz (.int gs)] g = .ok (.fz (.bool true)) g := by
  rw [callN_at (f := ⟨2, 4, b_is_program⟩) rfl]
  have lp := is_program_loop (k := k) (g := g) h (enumD 0 (P.map enc)) fun y hy => by
    obtain ⟨i, x, h1, h2⟩ := enum_at _ _ _ hy
    rw [List.getElem?_map, Option.map_eq_some_iff] at h1
    obtain ⟨z, h3, rfl⟩ := h1
    exact ⟨i, z, h3, by rw [h2, Nat.zero_add]⟩
  have e : pyIx (.tuple (P.map enc)) (.int (-1)) = some (.fz (.tuple [.str "end"])) := ixUn (m := 1) rfl (by decide) (by rw [List.length_map]; exact h.lo) (by rw [List.length_map, List.getElem?_map, h.la]; rfl)
  have ne : pyNe (.tuple [.str "end"]) (.tuple [.str "end"]) = some false := by simp [pyNe, eqOk]
  have h1 := h.lo
  have h2 : (P.length : Int) ≤ 4000 := by have := h.hi; omega
  have h3 : (1 : Int) ≤ P.length := by omega
  unfold encP at lp ⊢
  simp [semF, runF, b_is_program, e, ne, h2, h3, lp]
end
end
end K74
namespace K74
noncomputable section
open PySem FD
def optD : Option Int → D
  | none => .none
  | some n => .int n
def tuD (tv : List (Option Int)) : D := .tuple (tv.map optD)
def R (st : List Int) : List D := st.reverse.map .int
def stD (st : List Int) : D := .tuple (R st)
def num (x : Ins) (tv : List (Option Int)) (st : List Int) : Option Int := match x, st with
  | .push n, _ => some n
  | .reading j, _ => (tv[j.toNat]?).getD none
  | .times, b :: a :: _ => some (a * b)
  | .add, b :: a :: _ => some (a + b)
  | .less, b :: a :: _ => some (a - b)
  | .least, b :: a :: _ => some (if b ≤ a then 1 else 0)
  | _, _ => none
def rest (x : Ins) (st : List Int) : List Int := match x, st with
  | .times, _ :: _ :: r => r
  | .add, _ :: _ :: r => r
  | .less, _ :: _ :: r => r
  | .least, _ :: _ :: r => r
  | _, st => st
def StOk (st : List Int) : Prop := st.length ≤ 8 ∧ ∀ v ∈ st, isW v
structure S2 (a b : Int) (r : List Int) (S : List D) : Prop where
  e : R (b :: a :: r) = S
  len : S.length = r.length + 2
  a1 : pyIx (.tuple S) (.int ((S.length : Int) - 2)) = some (.fz (.int a))
  b1 : pyIx (.tuple S) (.int ((S.length : Int) - 1)) = some (.fz (.int b))
  a2 : pyIx (.tuple S) (.int (-2)) = some (.fz (.int a))
  b2 : pyIx (.tuple S) (.int (-1)) = some (.fz (.int b))
  c1 : cut S none (some ((S.length : Int) - 2)) = R r
  c2 : cut S none (some (-2)) = R r
theorem R_len (st : List Int) : (R st).length = st.length := by simp [R]
theorem s2_mk (a b : Int) (r : List Int) : ∃ S, S2 a b r S := by
  refine ⟨R r ++ [.int a, .int b], ?_, ?_, ?_, ?_, ?_, ?_, ?_, ?_⟩
  · simp [R]
  · simp [R]
  · exact ixU (n := (R r).length) (by simp) (by simp)
  · exact ixU (n := (R r).length + 1) (by simp; omega) (by simp [List.getElem?_append_right])
  · exact ixU_m2 _ _ _
  · exact ixU_m1' _ _ _
  · rw [cutTo (n := (R r).length) (by simp) (by simp)]
    simp
  · rw [cutNeg (i := -2) (m := 2) rfl (by decide)]
    simp
structure S1 (b : Int) (r : List Int) (S : List D) : Prop where
  e : R (b :: r) = S
  len : S.length = r.length + 1
  b1 : pyIx (.tuple S) (.int ((S.length : Int) - 1)) = some (.fz (.int b))
  b2 : pyIx (.tuple S) (.int (-1)) = some (.fz (.int b))
  c1 : cut S none (some ((S.length : Int) - 1)) = R r
  c2 : cut S none (some (-1)) = R r
theorem s1_mk (b : Int) (r : List Int) : ∃ S, S1 b r S := by
  refine ⟨R r ++ [.int b], ?_, ?_, ?_, ?_, ?_, ?_⟩
  · simp [R]
  · simp [R]
  · exact ixU (n := (R r).length) (by simp) (by simp)
  · exact ixU_m1 _ _
  · rw [cutTo (n := (R r).length) (by simp) (by simp)]
    simp
  · rw [cutNeg (i := -1) (m := 1) rfl (by decide)]
    simp
section
variable {k : Nat} {g : G}
theorem wordMul {a b : Int} (ha : isW a) (hb : isW b) : pyMul (.int a) (.int b) = some (.fz (.int (a * b))) := by
  unfold isW at ha hb
  exact mulI (by omega) (by omega)
def isGrow : Ins → Bool
  | .ring _ => false
  | .skip _ _ => false
  | .fin => false
  | _ => true
theorem tu_at {tv : List (Option Int)} {gs : Nat} (ht : tv.length = gs) {j : Int} (h : 0 ≤ j ∧ j < gs) : pyIx (tuD tv) (.int j) = some (.fz (optD ((tv[j.toNat]?).getD none))) := by
  have q : j.toNat < tv.length := by omega
  refine ixU (n := j.toNat) (by omega) ?_
  rw [List.getElem?_map, List.getElem?_eq_getElem q]
  rfl
theorem made_ok {gs many place : Nat} {tv : List (Option Int)} (ht : tv.length = gs) {x : Ins} (hx : Va gs many place x) (hg : isGrow x = true) {st : List Int} (hs : StOk st) :
    callN 4100 tab (k + 1) 11 [.fz (enc x), .fz (tuD tv), .fz (stD st)] g = .ok (.fz (.tuple [stD (rest x st), optD (num x tv st)])) g := by
  rw [callN_at (f := ⟨3, 6, b_law_made⟩) rfl]
  have bin : ∀ a b r, st = b :: a :: r → isW a ∧ isW b := fun a b r e => by
    subst e
    exact ⟨hs.2 a (by simp), hs.2 b (by simp)⟩
  cases x with
  | push n => simp [semF, runF, b_law_made, enc, ix0, ix1, rest, num, optD]
  | reading j =>
    have e := tu_at ht hx
    simp [semF, runF, b_law_made, enc, ix0, ix1, rest, num, e]
  | ring t => cases hg
  | skip j p => cases hg
  | fin => cases hg
  | times =>
    match st, hs, bin with
    | [], _, _ => simp [semF, runF, b_law_made, enc, ix0, rest, num, stD, R, optD]
    | [b], _, _ => simp [semF, runF, b_law_made, enc, ix0, rest, num, stD, R, optD]
    | b :: a :: r, hs, bin =>
      obtain ⟨S, hS⟩ := s2_mk a b r
      obtain ⟨ha, hb⟩ := bin a b r rfl
      have h2 : ¬ (S.length : Int) < 2 := by have := hS.len; omega
      simp [semF, runF, b_law_made, enc, ix0, rest, num, stD, optD, hS.e, hS.a1, hS.b1, hS.c1, h2, wordMul ha hb]
  | add =>
    match st, hs, bin with
    | [], _, _ => simp [semF, runF, b_law_made, enc, ix0, rest, num, stD, R, optD]
    | [b], _, _ => simp [semF, runF, b_law_made, enc, ix0, rest, num, stD, R, optD]
    | b :: a :: r, hs, bin =>
      obtain ⟨S, hS⟩ := s2_mk a b r
      have h2 : ¬ (S.length : Int) < 2 := by have := hS.len; omega
      simp [semF, runF, b_law_made, enc, ix0, rest, num, stD, optD, hS.e, hS.a1, hS.b1, hS.c1, h2]
  | less =>
    match st, hs, bin with
    | [], _, _ => simp [semF, runF, b_law_made, enc, ix0, rest, num, stD, R, optD]
    | [b], _, _ => simp [semF, runF, b_law_made, enc, ix0, rest, num, stD, R, optD]
    | b :: a :: r, hs, bin =>
      obtain ⟨S, hS⟩ := s2_mk a b r
      have h2 : ¬ (S.length : Int) < 2 := by have := hS.len; omega
      simp [semF, runF, b_law_made, enc, ix0, rest, num, stD, optD, hS.e, hS.a1, hS.b1, hS.c1, h2]
  | least =>
    match st, hs, bin with
    | [], _, _ => simp [semF, runF, b_law_made, enc, ix0, rest, num, stD, R, optD]
    | [b], _, _ => simp [semF, runF, b_law_made, enc, ix0, rest, num, stD, R, optD]
    | b :: a :: r, hs, bin =>
      obtain ⟨S, hS⟩ := s2_mk a b r
      have h2 : ¬ (S.length : Int) < 2 := by have := hS.len; omega
      simp [semF, runF, b_law_made, enc, ix0, rest, num, stD, optD, hS.e, hS.a1, hS.b1, hS.c1, h2]
theorem result_times {a b : Int} (ha : isW a) (hb : isW b) : callN 4100 tab (k + 1) 14 [.fz (.str "times"), .fz (.int a), .fz (.int b)] g = .ok (.fz (.int (a * b))) g := by
  rw [callN_at (f := ⟨3, 3, b_result_of⟩) rfl]
  simp [semF, runF, b_result_of, wordMul ha hb]
theorem result_add (a b : Int) : callN 4100 tab (k + 1) 14 [.fz (.str "add"), .fz (.int a), .fz (.int b)] g = .ok (.fz (.int (a + b))) g := by
  rw [callN_at (f := ⟨3, 3, b_result_of⟩) rfl]
  simp [semF, runF, b_result_of]
theorem result_less (a b : Int) : callN 4100 tab (k + 1) 14 [.fz (.str "less"), .fz (.int a), .fz (.int b)] g = .ok (.fz (.int (a - b))) g := by
  rw [callN_at (f := ⟨3, 3, b_result_of⟩) rfl]
  simp [semF, runF, b_result_of]
theorem result_least (a b : Int) : callN 4100 tab (k + 1) 14 [.fz (.str "least"), .fz (.int a), .fz (.int b)] g = .ok (.fz (.int (if b ≤ a then 1 else 0))) g := by
  rw [callN_at (f := ⟨3, 3, b_result_of⟩) rfl]
  simp [semF, runF, b_result_of]
/-- the stack behind a word or a sum -/
def fin2 (n : Option Int) (r : List Int) : Option (List Int) := match n with
  | none => none
  | some n => if (-2147483648 ≤ n ∧ n ≤ 2147483647) ∧ r.length ≠ 8 then some (n :: r) else none
def grow (x : Ins) (tv : List (Option Int)) (st : List Int) : Option (List Int) := fin2 (num x tv st) (rest x st)
def oS : Option (List Int) → D
  | none => .none
  | some s => stD s
/-- the end of grown -/
def gTail (ct : CT) : Ev Fl := sSeq (sIf (cOr (cCmp pyIs (cVP 4) (cD (cK .none))) (cOr (cNot (cTru (cD (cCall ct 8 (cACons (cVE 4) cANil))))) (cCmp pyEq (cD (c1 pyLen (cVP 3))) (cD (cK (.int 8))))))
    (sRet (cK .none))
    sPass)
  (sRet (c2 pyAdd (cVP 3) (cD (cTup (cCons (cD (cVE 4)) cNil)))))
def gHead (ct : CT) : Ev Fl := (sIf (cCmp pyEq (cD (cVIx 0 (cD (cK (.int 0))))) (cD (cK (.str "push"))))
    (sAsg 4 (cVIx 0 (cD (cK (.int 1)))))
    (sIf (cCmp pyEq (cD (cVIx 0 (cD (cK (.int 0))))) (cD (cK (.str "reading"))))
      (sAsg 4 (cVIx 1 (cD (cVIx 0 (cD (cK (.int 1)))))))
      (sIf (cCmp pyLt (cD (c1 pyLen (cVP 2))) (cD (cK (.int 2))))
        (sRet (cK .none))
        (sSeq (sAsg 4 (cCall ct 14 (cACons (cVIx 0 (cD (cK (.int 0)))) (cACons (cVIx 2 (cD (c1 pyNeg (cD (cK (.int 2)))))) (cACons (cVIx 2 (cD (c1 pyNeg (cD (cK (.int 1)))))) cANil)))))
        (sAsg 3 (cSlice (cVP 2) cNoB (cBd (cD (c1 pyNeg (cD (cK (.int 2)))))))))))) 
theorem grown_cut (ct : CT) (w : Nat) : b_grown ct w = sSeq (sAsg 3 (cVE 2)) (sSeq (gHead ct) (gTail ct)) := rfl
theorem grown_end {s0 s1 s2 : Option SV} {r : List Int} (hr : r.length ≤ 8) (n : Option Int) :
    gTail (callN 4100 tab (k + 1)) [s0, s1, s2, some (.fz (stD r)), some (.fz (optD n))] g = .ok (.rt (.fz (oS (fin2 n r)))) [s0, s1, s2, some (.fz (stD r)), some (.fz (optD n))] g := by
  cases n with
  | none => simp [gTail, optD, fin2, oS]
  | some n =>
    have ad : pyAdd (stD r) (.tuple [.int n]) = some (.fz (stD (n :: r))) := by
      rw [stD, addU (by simp [R]; omega)]
      simp [stD, R]
    have ln : pyLen (stD r) = some (.fz (.int r.length)) := by simp [stD, R]
    by_cases q1 : -2147483648 ≤ n
    · by_cases q2 : n ≤ 2147483647
      · by_cases q3 : r.length = 8
        · simp [gTail, optD, fin2, oS, is_word_ok, q1, q2, q3, ln]
        · have q4 : ¬ (r.length : Int) = 8 := by omega
          simp [gTail, optD, fin2, oS, is_word_ok, q1, q2, q3, q4, ln, ad]
      · simp [gTail, optD, fin2, oS, is_word_ok, q1, q2, ln]
    · simp [gTail, optD, fin2, oS, is_word_ok, q1, ln]
theorem grown_ok {gs many place : Nat} {tv : List (Option Int)} (ht : tv.length = gs) {x : Ins} (hx : Va gs many place x) (hg : isGrow x = true) {st : List Int} (hs : StOk st) :
    callN 4100 tab (k + 2) 15 [.fz (enc x), .fz (tuD tv), .fz (stD st)] g = .ok (.fz (oS (grow x tv st))) g := by
  rw [callN_at (f := ⟨3, 5, b_grown⟩) rfl]
  show semF 3 5 (b_grown (callN 4100 tab (k + 1)) 4100) _ _ = _
  rw [grown_cut]
  have bin : ∀ a b r, st = b :: a :: r → isW a ∧ isW b := fun a b r e => by
    subst e
    exact ⟨hs.2 a (by simp), hs.2 b (by simp)⟩
  have tl : ∀ a b r, st = b :: a :: r → r.length ≤ 8 := fun a b r e => by
    have := hs.1
    subst e
    simp only [List.length_cons] at this
    omega
  cases x with
  | push n =>
    have e := grown_end (k := k) (g := g) (s0 := some (.fz (enc (.push n)))) (s1 := some (.fz (tuD tv))) (s2 := some (.fz (stD st))) hs.1 (some n)
    simp only [enc, optD] at e
    simp [semF, runF, gHead, enc, ix0, ix1, grow, rest, num, e]
  | reading j =>
    have e := grown_end (k := k) (g := g) (s0 := some (.fz (enc (.reading j)))) (s1 := some (.fz (tuD tv))) (s2 := some (.fz (stD st))) hs.1 ((tv[j.toNat]?).getD none)
    have t := tu_at ht hx
    simp only [enc] at e
    simp [semF, runF, gHead, enc, ix0, ix1, grow, rest, num, t, e]
  | ring t => cases hg
  | skip j p => cases hg
  | fin => cases hg
  | times =>
    match st, hs, bin, tl with
    | [], _, _, _ => simp [semF, runF, gHead, enc, ix0, grow, rest, num, stD, R, fin2, oS]
    | [b], _, _, _ => simp [semF, runF, gHead, enc, ix0, grow, rest, num, stD, R, fin2, oS]
    | b :: a :: r, hs, bin, tl =>
      obtain ⟨S, hS⟩ := s2_mk a b r
      obtain ⟨ha, hb⟩ := bin a b r rfl
      have h2 : ¬ (S.length : Int) < 2 := by have := hS.len; omega
      have e := grown_end (k := k) (g := g) (s0 := some (.fz (enc .times))) (s1 := some (.fz (tuD tv))) (s2 := some (.fz (.tuple S))) (tl a b r rfl) (some (a * b))
      simp only [enc, optD, stD] at e
      simp [semF, runF, gHead, enc, ix0, grow, rest, num, stD, hS.e, hS.a2, hS.b2, hS.c2, h2, result_times ha hb, e]
  | add =>
    match st, hs, bin, tl with
    | [], _, _, _ => simp [semF, runF, gHead, enc, ix0, grow, rest, num, stD, R, fin2, oS]
    | [b], _, _, _ => simp [semF, runF, gHead, enc, ix0, grow, rest, num, stD, R, fin2, oS]
    | b :: a :: r, hs, bin, tl =>
      obtain ⟨S, hS⟩ := s2_mk a b r
      have h2 : ¬ (S.length : Int) < 2 := by have := hS.len; omega
      have e := grown_end (k := k) (g := g) (s0 := some (.fz (enc .add))) (s1 := some (.fz (tuD tv))) (s2 := some (.fz (.tuple S))) (tl a b r rfl) (some (a + b))
      simp only [enc, optD, stD] at e
      simp [semF, runF, gHead, enc, ix0, grow, rest, num, stD, hS.e, hS.a2, hS.b2, hS.c2, h2, result_add, e]
  | less =>
    match st, hs, bin, tl with
    | [], _, _, _ => simp [semF, runF, gHead, enc, ix0, grow, rest, num, stD, R, fin2, oS]
    | [b], _, _, _ => simp [semF, runF, gHead, enc, ix0, grow, rest, num, stD, R, fin2, oS]
    | b :: a :: r, hs, bin, tl =>
      obtain ⟨S, hS⟩ := s2_mk a b r
      have h2 : ¬ (S.length : Int) < 2 := by have := hS.len; omega
      have e := grown_end (k := k) (g := g) (s0 := some (.fz (enc .less))) (s1 := some (.fz (tuD tv))) (s2 := some (.fz (.tuple S))) (tl a b r rfl) (some (a - b))
      simp only [enc, optD, stD] at e
      simp [semF, runF, gHead, enc, ix0, grow, rest, num, stD, hS.e, hS.a2, hS.b2, hS.c2, h2, result_less, e]
  | least =>
    match st, hs, bin, tl with
    | [], _, _, _ => simp [semF, runF, gHead, enc, ix0, grow, rest, num, stD, R, fin2, oS]
    | [b], _, _, _ => simp [semF, runF, gHead, enc, ix0, grow, rest, num, stD, R, fin2, oS]
    | b :: a :: r, hs, bin, tl =>
      obtain ⟨S, hS⟩ := s2_mk a b r
      have h2 : ¬ (S.length : Int) < 2 := by have := hS.len; omega
      have e := grown_end (k := k) (g := g) (s0 := some (.fz (enc .least))) (s1 := some (.fz (tuD tv))) (s2 := some (.fz (.tuple S))) (tl a b r rfl) (some (if b ≤ a then 1 else 0))
      simp only [enc, optD, stD] at e
      simp [semF, runF, gHead, enc, ix0, grow, rest, num, stD, hS.e, hS.a2, hS.b2, hS.c2, h2, result_least, e]
end
end
end K74
namespace K74
noncomputable section
open PySem FD
def brk (place : Nat) : D := .tuple [.str "broken", .int place]
/-- one step: on, or the end -/
inductive Res where
  | on (p : Nat) (st : List Int)
  | off (e : D)
def stepR (x : Ins) (tv : List (Option Int)) (place : Nat) (st : List Int) : Res := match x with
  | .fin => .off (.tuple [.str "silent"])
  | .skip j p => .on (match (tv[j.toNat]?).getD none with
    | none => p.toNat
    | some _ => place + 1) st
  | .ring t => match st with
    | [] => .off (brk place)
    | b :: r => if b = 0 then .on (place + 1) r else .off (.tuple [.str "rings", .int t])
  | x => match grow x tv st with
    | none => .off (brk place)
    | some s => .on (place + 1) s
def resD : Res → D
  | .on p st => .tuple [.str "on", .int p, stD st]
  | .off e => e
section
variable {k : Nat} {g : G}
theorem grow_step {x : Ins} (h : isGrow x = true) (tv : List (Option Int)) (place : Nat) (st : List Int) : stepR x tv place st = match grow x tv st with
    | none => .off (brk place)
    | some s => .on (place + 1) s := by cases x <;> first | rfl | cases h
theorem lay_ints : ∀ ns : List Int, PyData.canLayAll0 (ns.map .int) = true
  | [] => by simp
  | x :: r => by simp [lay_ints r]
theorem dep_ints : ∀ ns : List Int, PyData.depthAll (ns.map .int) = 0
  | [] => by simp
  | x :: r => by simp [dep_ints r]
theorem sh_ints (ns : List Int) : SeqAt.shaped (.tuple (ns.map .int)) = true := by simp [lay_ints, dep_ints]
theorem step_ok {gs : Nat} {P : List Ins} {tv : List (Option Int)} (ht : tv.length = gs) (hP : Pr gs P) {place : Nat} {x : Ins} (hx : P[place]? = some x) {st : List Int} (hs : StOk st) {p : Nat} {s : List Int} (h : stepR x tv place st = .on p s) :
    place < p ∧ p < P.length ∧ StOk s := by
  have va := hP.va _ _ hx
  have lp : place < P.length := by
    cases Nat.lt_or_ge place P.length with
    | inl q => exact q
    | inr q => rw [List.getElem?_eq_none q] at hx; cases hx
  have nl : x ≠ .fin → place + 1 < P.length := fun nf => by
    have q := hP.la
    by_cases z : place = P.length - 1
    · rw [z, q] at hx
      exact absurd (Option.some.inj hx).symm nf
    · omega
  have gr : ∀ x, isGrow x = true → x ≠ .fin → P[place]? = some x → Va gs P.length place x → stepR x tv place st = .on p s → place < p ∧ p < P.length ∧ StOk s := fun x hg hf hx va h => by
    rw [grow_step hg] at h
    cases e : grow x tv st with
    | none => rw [e] at h; cases h
    | some s' =>
      rw [e] at h
      cases h
      unfold grow fin2 at e
      split at e
      · cases e
      · rename_i n en
        split at e
        · rename_i q
          cases e
          refine ⟨by omega, ?_, ?_⟩
          · have q := hP.la
            by_cases z : place = P.length - 1
            · rw [z, q] at hx
              exact absurd (Option.some.inj hx).symm hf
            · omega
          · have rl : (rest x st).length ≤ st.length ∧ ∀ v ∈ rest x st, v ∈ st := by
              unfold rest
              split <;> first | exact ⟨by simp only [List.length_cons]; omega, fun v hv => List.mem_cons_of_mem _ (List.mem_cons_of_mem _ hv)⟩ | exact ⟨Nat.le_refl _, fun v hv => hv⟩
            refine ⟨?_, fun v hv => ?_⟩
            · have := hs.1
              rw [List.length_cons]
              omega
            · rcases List.mem_cons.mp hv with rfl | hv
              · exact q.1
              · exact hs.2 v (rl.2 v hv)
        · cases e
  cases x with
  | fin => simp [stepR] at h
  | skip j q =>
    obtain ⟨_, h3, h4⟩ := va
    simp only [stepR, Res.on.injEq] at h
    obtain ⟨e1, e2⟩ := h
    subst e2
    have n1 := nl (fun z => by cases z)
    split at e1
    · subst e1
      exact ⟨by omega, by omega, hs⟩
    · subst e1
      exact ⟨by omega, by omega, hs⟩
  | ring t =>
    have n1 := nl (fun z => by cases z)
    unfold stepR at h
    match st, hs, h with
    | [], _, h => cases h
    | b :: r, hs, h =>
      simp only at h
      split at h
      · cases h
        refine ⟨by omega, n1, ?_, fun v hv => hs.2 v (List.mem_cons_of_mem _ hv)⟩
        have := hs.1
        simp only [List.length_cons] at this
        omega
      · cases h
  | push n => exact gr _ rfl (fun z => by cases z) hx va h
  | reading n => exact gr _ rfl (fun z => by cases z) hx va h
  | times => exact gr _ rfl (fun z => by cases z) hx va h
  | add => exact gr _ rfl (fun z => by cases z) hx va h
  | less => exact gr _ rfl (fun z => by cases z) hx va h
  | least => exact gr _ rfl (fun z => by cases z) hx va h
theorem encP_at {P : List Ins} {place : Nat} {x : Ins} (h : P[place]? = some x) : pyIx (encP P) (.int place) = some (.fz (enc x)) := ixU (n := place) rfl (by rw [List.getElem?_map, h]; rfl)
theorem is_none_opt (n : Option Int) : pyIs (optD n) .none = some n.isNone := by cases n <;> rfl
theorem oS_end (s : Option (List Int)) : pyIs (oS s) .none = some s.isNone := by cases s <;> rfl
theorem stepped_ok {gs : Nat} {P : List Ins} {tv : List (Option Int)} (ht : tv.length = gs) (hP : Pr gs P) {place : Nat} {x : Ins} (hx : P[place]? = some x) {st : List Int} (hs : StOk st) :
    callN 4100 tab (k + 3) 16 [.fz (encP P), .fz (tuD tv), .fz (.int place), .fz (stD st)] g = .ok (.fz (resD (stepR x tv place st))) g := by
  rw [callN_at (f := ⟨4, 5, b_stepped⟩) rfl]
  have va := hP.va _ _ hx
  have e := encP_at hx
  have gr : isGrow x = true → callN 4100 tab (k + 2) 15 [.fz (enc x), .fz (tuD tv), .fz (stD st)] g = .ok (.fz (oS (grow x tv st))) g := fun hg => grown_ok ht va hg hs
  have fin : ∀ o : Option (List Int), resD (match o with
    | none => .off (brk place)
    | some s => .on (place + 1) s) = match o with
    | none => brk place
    | some s => .tuple [.str "on", .int (place + 1), stD s] := fun o => by cases o <;> simp [resD]
  cases x with
  | fin => simp [semF, runF, b_stepped, e, enc, ix0, resD, stepR]
  | skip j p =>
    obtain ⟨h1, h2, h3⟩ := va
    have t := tu_at ht h1
    simp [semF, runF, b_stepped, e, enc, ix0, ix1, ix2, resD, stepR, t, is_none_opt]
    cases q : (tv[j.toNat]?).getD none with
    | none => simp [show ((p.toNat : Nat) : Int) = p by omega]
    | some z => simp
  | ring t =>
    match st, hs with
    | [], _ => simp [semF, runF, b_stepped, e, enc, ix0, ix1, resD, stepR, stD, R, pyEq, eqOk, brk]
    | b :: r, hs =>
      obtain ⟨S, hS⟩ := s1_mk b r
      have ne : pyEq (.tuple S) (.tuple []) = some false := by
        have sh : SeqAt.shaped (.tuple S) = true := by
          rw [← hS.e]
          exact sh_ints _
        have z : PyData.eqv (.tuple S) (.tuple []) = false := by
          have := hS.len
          cases S with
          | nil => simp at this
          | cons x xs => simp
        have e0 : eqOk (.tuple S) (.tuple []) = true := by
          show (SeqAt.shaped (.tuple S) && SeqAt.shaped (.tuple [])) = true
          rw [sh]
          simp
        unfold pyEq
        rw [e0, z]
        rfl
      have sr : stepR (.ring t) tv place (b :: r) = if b = 0 then .on (place + 1) r else .off (.tuple [.str "rings", .int t]) := rfl
      have se : stD (b :: r) = .tuple S := by rw [stD, hS.e]
      rw [sr, se]
      by_cases q : b = 0
      · simp [semF, runF, b_stepped, e, enc, ix0, ix1, resD, ne, hS.b2, hS.c2, q, stD]
      · simp [semF, runF, b_stepped, e, enc, ix0, ix1, resD, ne, hS.b2, hS.c2, q]
  | push n =>
    have g1 := gr rfl
    simp only [enc] at g1
    rw [grow_step rfl, fin]
    simp [semF, runF, b_stepped, e, enc, ix0, g1, oS_end]
    cases grow (.push n) tv st <;> simp [oS, brk]
  | reading n =>
    have g1 := gr rfl
    simp only [enc] at g1
    rw [grow_step rfl, fin]
    simp [semF, runF, b_stepped, e, enc, ix0, g1, oS_end]
    cases grow (.reading n) tv st <;> simp [oS, brk]
  | times =>
    have g1 := gr rfl
    simp only [enc] at g1
    rw [grow_step rfl, fin]
    simp [semF, runF, b_stepped, e, enc, ix0, g1, oS_end]
    cases grow .times tv st <;> simp [oS, brk]
  | add =>
    have g1 := gr rfl
    simp only [enc] at g1
    rw [grow_step rfl, fin]
    simp [semF, runF, b_stepped, e, enc, ix0, g1, oS_end]
    cases grow .add tv st <;> simp [oS, brk]
  | less =>
    have g1 := gr rfl
    simp only [enc] at g1
    rw [grow_step rfl, fin]
    simp [semF, runF, b_stepped, e, enc, ix0, g1, oS_end]
    cases grow .less tv st <;> simp [oS, brk]
  | least =>
    have g1 := gr rfl
    simp only [enc] at g1
    rw [grow_step rfl, fin]
    simp [semF, runF, b_stepped, e, enc, ix0, g1, oS_end]
    cases grow .least tv st <;> simp [oS, brk]
/-! ### the run -/
def pairD (place : Nat) (st : List Int) : D := .tuple [.int place, stD st]
def runP (P : List Ins) (tv : List (Option Int)) : Nat → Nat → List Int → List D × D
  | 0, _, _ => ([], .none)
  | n + 1, place, st => match P[place]? with
    | none => ([], .none)
    | some x => match stepR x tv place st with
      | .on p s => (pairD place st :: (runP P tv n p s).1, (runP P tv n p s).2)
      | .off e => ([pairD place st], e)
theorem off_on (x : Ins) (tv : List (Option Int)) (place : Nat) (st : List Int) (e : D) (h : stepR x tv place st = .off e) : ∃ (z : Str) (r : List D), e = .tuple (.str z :: r) ∧ (z == Str.ofString "on") = false := by
  have gr : isGrow x = true → ∃ (z : Str) (r : List D), e = .tuple (.str z :: r) ∧ (z == Str.ofString "on") = false := fun hg => by
    rw [grow_step hg] at h
    split at h
    · cases h
      exact ⟨_, _, rfl, w_broken_on⟩
    · cases h
  cases x with
  | fin =>
    cases h
    exact ⟨_, _, rfl, w_silent_on⟩
  | skip j p => cases h
  | ring t =>
    unfold stepR at h
    cases st with
    | nil =>
      cases h
      exact ⟨_, _, rfl, w_broken_on⟩
    | cons b r =>
      simp only at h
      split at h
      · cases h
      · cases h
        exact ⟨_, _, rfl, w_rings_on⟩
  | _ => exact gr rfl
theorem trace_loop {gs : Nat} {P : List Ins} {tv : List (Option Int)} (ht : tv.length = gs) (hP : Pr gs P) : ∀ (xs : List D) (place : Nat) (st : List Int) (acc : List D), P.length ≤ place + xs.length → place < P.length → StOk st → acc.length + xs.length ≤ 10000 →
    ∃ σ, forL (gNm 3)
    (sSeq (sAsg 4 (cCall (callN 4100 tab (k + 3)) 16 (cACons (cVE 0) (cACons (cVE 1) (cACons (c2 pyIx (cD (cVIx 2 (cD (c1 pyNeg (cD (cK (.int 1))))))) (cD (cK (.int 0)))) (cACons (c2 pyIx (cD (cVIx 2 (cD (c1 pyNeg (cD (cK (.int 1))))))) (cD (cK (.int 1)))) cANil))))))
    (sSeq (sIf (cCmp pyNe (cD (cVIx 4 (cD (cK (.int 0))))) (cD (cK (.str "on"))))
      (sRet (cTup (cCons (cD (cVE 2)) (cCons (cD (cVE 4)) cNil))))
      sPass)
    (sApp 2 (cD (cSlice (cVP 4) (cBd (cD (cK (.int 1)))) cNoB))))) xs [some (.fz (encP P)), some (.fz (tuD tv)), some (.ow (acc ++ [pairD place st])), none, none] g
      = .ok (.rt (.fz (.tuple [.list (acc ++ (runP P tv xs.length place st).1), (runP P tv xs.length place st).2]))) σ g
  | [], place, st, acc, h1, h2, _, _ => by
    simp only [List.length_nil] at h1
    omega
  | y :: r, place, st, acc, h1, h2, hs, h3 => by
    rw [List.length_cons] at h1 h3
    obtain ⟨x, hx⟩ : ∃ x, P[place]? = some x := ⟨_, List.getElem?_eq_getElem h2⟩
    have e1 := ixL_m1 acc (pairD place st)
    have e2 : pyIx (pairD place st) (.int 0) = some (.fz (.int place)) := ix0 _ _
    have e3 : pyIx (pairD place st) (.int 1) = some (.fz (stD st)) := ix1 _ _ _
    have e4 := stepped_ok (k := k) (g := g) ht hP hx hs
    cases q : stepR x tv place st with
    | on p s =>
      obtain ⟨s1, s2, s3⟩ := step_ok ht hP hx hs q
      obtain ⟨σ, ih⟩ := trace_loop ht hP r p s (acc ++ [pairD place st]) (by omega) s2 s3 (by rw [List.length_append]; simp only [List.length_cons, List.length_nil]; omega)
      rw [q] at e4
      refine ⟨σ, ?_⟩
      have rp : runP P tv (r.length + 1) place st = (pairD place st :: (runP P tv r.length p s).1, (runP P tv r.length p s).2) := by
        rw [runP, hx]
        simp only [q]
      rw [List.length_cons, rp]
      simp only [List.append_assoc, List.cons_append, List.nil_append] at ih
      rw [← ih]
      have c : cut [PyData.str "on", PyData.int p, stD s] (some 1) none = [.int p, stD s] := cutFrom (n := 1) rfl
      have l : acc.length + 1 < 16777216 := by omega
      have pd : PyData.tuple [.int p, stD s] = pairD p s := rfl
      simp [forL, e1, e2, e3, e4, resD, ix0, c, l, pd]
    | off e =>
      obtain ⟨z, rr, ez, nz⟩ := off_on _ _ _ _ _ q
      rw [q] at e4
      refine ⟨[some (.fz (encP P)), some (.fz (tuD tv)), some (.fz (.list (acc ++ [pairD place st]))), some (.fz y), some (.fz e)], ?_⟩
      have rp : runP P tv (r.length + 1) place st = ([pairD place st], e) := by
        rw [runP, hx]
        simp only [q]
      rw [List.length_cons, rp]
      subst ez
      simp [forL, e1, e2, e3, e4, resD, ix0, nz]
end
end
end K74
namespace K74
noncomputable section
open PySem FD
def lElse (ct : CT) : Ev Fl := (sSeq (sUnp (gTp 2 (gC (gNm 7) (gC (gNm 8) gN))) (cD (cCall ct 11 (cACons (cVE 6) (cACons (cVE 1) (cACons (cVE 3) cANil))))))
        (sSeq (sIf (cOr (cCmp pyIs (cVP 8) (cD (cK .none))) (cOr (cNot (cTru (cD (cCall ct 12 (cACons (cVE 8) cANil))))) (cCmp pyGt (cD (c1 pyLen (cVP 7))) (cD (cK (.int 7))))))
          (sRet (cTup (cCons (cD (cVE 4)) (cCons (cD (cTup (cCons (cD (cK (.str "broken"))) (cCons (cD (cVE 2)) cNil)))) cNil))))
          sPass)
        (sSeq (sAsg 3 (c2 pyAdd (cVP 7) (cD (cTup (cCons (cD (cVE 8)) cNil)))))
        (sAsg 2 (c2 pyAdd (cVP 2) (cD (cK (.int 1))))))))
def lBody (ct : CT) : Ev Fl := (sSeq (sApp 4 (cD (cTup (cCons (cD (cVE 2)) (cCons (cD (cVE 3)) cNil)))))
    (sSeq (sAsg 6 (cVIx 0 (cVP 2)))
    (sSeq (sIf (cCmp pyEq (cD (cVIx 6 (cD (cK (.int 0))))) (cD (cK (.str "end"))))
      (sRet (cTup (cCons (cD (cVE 4)) (cCons (cD (cTup (cCons (cD (cK (.str "silent"))) cNil))) cNil))))
      sPass)
    (sIf (cCmp pyEq (cD (cVIx 6 (cD (cK (.int 0))))) (cD (cK (.str "skip"))))
      (sAsg 2 (cIte (cCmp pyIs (cD (cVIx 1 (cD (cVIx 6 (cD (cK (.int 1))))))) (cD (cK .none))) (cVIx 6 (cD (cK (.int 2)))) (c2 pyAdd (cVP 2) (cD (cK (.int 1))))))
      (sIf (cCmp pyEq (cD (cVIx 6 (cD (cK (.int 0))))) (cD (cK (.str "ring"))))
        (sSeq (sIf (cCmp pyEq (cD (c1 pyLen (cVP 3))) (cD (cK (.int 0))))
          (sRet (cTup (cCons (cD (cVE 4)) (cCons (cD (cTup (cCons (cD (cK (.str "broken"))) (cCons (cD (cVE 2)) cNil)))) cNil))))
          sPass)
        (sSeq (sIf (cCmp pyNe (cD (cVIx 3 (cD (c2 pySub (cD (c1 pyLen (cVP 3))) (cD (cK (.int 1))))))) (cD (cK (.int 0))))
          (sRet (cTup (cCons (cD (cVE 4)) (cCons (cD (cTup (cCons (cD (cK (.str "rings"))) (cCons (cD (cVIx 6 (cD (cK (.int 1))))) cNil)))) cNil))))
          sPass)
        (sSeq (sAsg 3 (cSlice (cVP 3) cNoB (cBd (cD (c2 pySub (cD (c1 pyLen (cVP 3))) (cD (cK (.int 1))))))))
        (sAsg 2 (c2 pyAdd (cVP 2) (cD (cK (.int 1))))))))
        (lElse ct))))))
theorem law_trace_cut (ct : CT) (w : Nat) : b_law_trace ct w = (sSeq (sAsg 2 (cK (.int 0)))
  (sSeq (sAsg 3 (cTup cNil))
  (sSeq (sAsg 4 (cLst cNil))
  (sSeq (sFor (iR1 (cD (c1 pyLen (cVP 0)))) (gNm 5) (lBody ct))
  (sRet (cTup (cCons (cD (cVE 4)) (cCons (cD (cTup (cCons (cD (cK (.str "broken"))) (cCons (cD (cVE 2)) cNil)))) cNil)))))))) := rfl
section
variable {k : Nat} {g : G}
theorem lElse_ok {d tD s : D} {n : Option Int} {r : List Int} {place : Nat} {acc : List D} {p0 y : Option SV} (hc : callN 4100 tab (k + 1) 11 [.fz d, .fz tD, .fz s] g = .ok (.fz (.tuple [stD r, optD n])) g) (hr : r.length ≤ 8) :
    lElse (callN 4100 tab (k + 1)) [p0, some (.fz tD), some (.fz (.int place)), some (.fz s), some (.ow acc), y, some (.fz d), none, none] g = match fin2 n r with
      | none => .ok (.rt (.fz (.tuple [.list acc, brk place]))) [p0, some (.fz tD), some (.fz (.int place)), some (.fz s), some (.fz (.list acc)), y, some (.fz d), some (.fz (stD r)), some (.fz (optD n))] g
      | some s' => .ok .nx [p0, some (.fz tD), some (.fz (.int (place + 1))), some (.fz (stD s')), some (.ow acc), y, some (.fz d), some (.fz (stD r)), some (.fz (optD n))] g := by
  cases n with
  | none => simp [lElse, hc, optD, fin2, brk]
  | some n =>
    have ad : pyAdd (stD r) (.tuple [.int n]) = some (.fz (stD (n :: r))) := by
      rw [stD, addU (by simp [R]; omega)]
      simp [stD, R]
    have ln : pyLen (stD r) = some (.fz (.int r.length)) := by simp [stD, R]
    simp only [optD] at hc
    by_cases q1 : -2147483648 ≤ n
    · by_cases q2 : n ≤ 2147483647
      · by_cases q3 : r.length = 8
        · simp [lElse, hc, optD, fin2, law_is_word_ok, q1, q2, q3, ln, brk]
        · have q4 : ¬ (7 : Int) < r.length := by omega
          simp [lElse, hc, optD, fin2, law_is_word_ok, q1, q2, q3, q4, ln, ad]
      · simp [lElse, hc, optD, fin2, law_is_word_ok, q1, q2, ln, brk]
    · simp [lElse, hc, optD, fin2, law_is_word_ok, q1, ln, brk]
theorem rest_len (x : Ins) (st : List Int) : (rest x st).length ≤ st.length := by
  unfold rest
  split <;> first | (simp only [List.length_cons]; omega) | exact Nat.le_refl _
theorem lBody_ok {gs : Nat} {P : List Ins} {tv : List (Option Int)} (ht : tv.length = gs) (hP : Pr gs P) {place : Nat} {x : Ins} (hx : P[place]? = some x) {st : List Int} (hs : StOk st) {acc : List D} (ha : acc.length < 10000) {y : Option SV} :
    match stepR x tv place st with
    | .on p s => ∃ a b c d, lBody (callN 4100 tab (k + 1)) [some (.fz (encP P)), some (.fz (tuD tv)), some (.fz (.int place)), some (.fz (stD st)), some (.ow acc), y, none, none, none] g = .ok .nx [some (.fz (encP P)), some (.fz (tuD tv)), some (.fz (.int p)), some (.fz (stD s)), some (.ow (acc ++ [pairD place st])), a, b, c, d] g
    | .off e => ∃ σ, lBody (callN 4100 tab (k + 1)) [some (.fz (encP P)), some (.fz (tuD tv)), some (.fz (.int place)), some (.fz (stD st)), some (.ow acc), y, none, none, none] g = .ok (.rt (.fz (.tuple [.list (acc ++ [pairD place st]), e]))) σ g := by
  have va := hP.va _ _ hx
  have e := encP_at hx
  have pd : PyData.tuple [.int place, stD st] = pairD place st := rfl
  have l : acc.length < 16777216 := by omega
  have gr : isGrow x = true → lElse (callN 4100 tab (k + 1)) [some (.fz (encP P)), some (.fz (tuD tv)), some (.fz (.int place)), some (.fz (stD st)), some (.ow (acc ++ [pairD place st])), y, some (.fz (enc x)), none, none] g = _ := fun hg =>
    lElse_ok (made_ok ht va hg hs) (Nat.le_trans (rest_len x st) hs.1)
  have lead : isGrow x = true → lBody (callN 4100 tab (k + 1)) [some (.fz (encP P)), some (.fz (tuD tv)), some (.fz (.int place)), some (.fz (stD st)), some (.ow acc), y, none, none, none] g = lElse (callN 4100 tab (k + 1)) [some (.fz (encP P)), some (.fz (tuD tv)), some (.fz (.int place)), some (.fz (stD st)), some (.ow (acc ++ [pairD place st])), y, some (.fz (enc x)), none, none] g := fun hg => by
    cases x <;> first | exact absurd hg Bool.false_ne_true | simp [lBody, e, enc, ix0, pd, l]
  have all : isGrow x = true → match stepR x tv place st with
    | .on p s => ∃ a b c d, lBody (callN 4100 tab (k + 1)) [some (.fz (encP P)), some (.fz (tuD tv)), some (.fz (.int place)), some (.fz (stD st)), some (.ow acc), y, none, none, none] g = .ok .nx [some (.fz (encP P)), some (.fz (tuD tv)), some (.fz (.int p)), some (.fz (stD s)), some (.ow (acc ++ [pairD place st])), a, b, c, d] g
    | .off e => ∃ σ, lBody (callN 4100 tab (k + 1)) [some (.fz (encP P)), some (.fz (tuD tv)), some (.fz (.int place)), some (.fz (stD st)), some (.ow acc), y, none, none, none] g = .ok (.rt (.fz (.tuple [.list (acc ++ [pairD place st]), e]))) σ g := fun hg => by
    have g1 := (lead hg).trans (gr hg)
    rw [grow_step hg]
    unfold grow
    revert g1
    generalize fin2 (num x tv st) (rest x st) = o
    cases o with
    | none => exact fun g1 => ⟨_, g1⟩
    | some s => exact fun g1 => ⟨_, _, _, _, g1⟩
  cases x with
  | fin =>
    refine ⟨[some (.fz (encP P)), some (.fz (tuD tv)), some (.fz (.int place)), some (.fz (stD st)), some (.fz (.list (acc ++ [pairD place st]))), y, some (.fz (enc .fin)), none, none], ?_⟩
    simp [lBody, e, enc, ix0, pd, l]
  | skip j p =>
    obtain ⟨h1, h2, h3⟩ := va
    have t := tu_at ht h1
    refine ⟨y, some (.fz (enc (.skip j p))), none, none, ?_⟩
    simp [lBody, e, enc, ix0, ix1, ix2, pd, l, t, is_none_opt]
    cases q : (tv[j.toNat]?).getD none with
    | none => simp [show ((p.toNat : Nat) : Int) = p by omega]
    | some z => simp
  | ring t =>
    match st, hs, pd, gr with
    | [], _, pd, _ =>
      refine ⟨[some (.fz (encP P)), some (.fz (tuD tv)), some (.fz (.int place)), some (.fz (stD [])), some (.fz (.list (acc ++ [pairD place []]))), y, some (.fz (enc (.ring t))), none, none], ?_⟩
      have ln : pyLen (stD []) = some (.fz (.int 0)) := rfl
      simp [lBody, e, enc, ix0, ix1, pd, l, ln, brk]
    | b :: r, hs, pd, _ =>
      obtain ⟨S, hS⟩ := s1_mk b r
      have sr : stepR (.ring t) tv place (b :: r) = if b = 0 then .on (place + 1) r else .off (.tuple [.str "rings", .int t]) := rfl
      have se : stD (b :: r) = .tuple S := by rw [stD, hS.e]
      have nl : ¬ (S.length : Int) = 0 := by have := hS.len; omega
      have nl2 : S ≠ [] := fun z => by subst z; exact nl rfl
      rw [sr]
      rw [se] at pd ⊢
      by_cases q : b = 0
      · rw [if_pos q]
        refine ⟨y, some (.fz (enc (.ring t))), none, none, ?_⟩
        simp [lBody, e, enc, ix0, ix1, pd, l, nl2, hS.b1, hS.c1, q, stD]
      · rw [if_neg q]
        refine ⟨[some (.fz (encP P)), some (.fz (tuD tv)), some (.fz (.int place)), some (.fz (.tuple S)), some (.fz (.list (acc ++ [pairD place (b :: r)]))), y, some (.fz (enc (.ring t))), none, none], ?_⟩
        simp [lBody, e, enc, ix0, ix1, pd, l, nl2, hS.b1, hS.c1, q]
  | _ => exact all rfl
theorem law_trace_loop {gs : Nat} {P : List Ins} {tv : List (Option Int)} (ht : tv.length = gs) (hP : Pr gs P) : ∀ (xs : List D) (place : Nat) (st : List Int) (acc : List D), P.length ≤ place + xs.length → place < P.length → StOk st → acc.length + xs.length ≤ 10000 →
    ∃ σ, forL (gNm 5) (lBody (callN 4100 tab (k + 1))) xs [some (.fz (encP P)), some (.fz (tuD tv)), some (.fz (.int place)), some (.fz (stD st)), some (.ow acc), none, none, none, none] g
      = .ok (.rt (.fz (.tuple [.list (acc ++ (runP P tv xs.length place st).1), (runP P tv xs.length place st).2]))) σ g
  | [], place, st, acc, h1, h2, _, _ => by
    simp only [List.length_nil] at h1
    omega
  | y :: r, place, st, acc, h1, h2, hs, h3 => by
    rw [List.length_cons] at h1 h3
    obtain ⟨x, hx⟩ : ∃ x, P[place]? = some x := ⟨_, List.getElem?_eq_getElem h2⟩
    have b := lBody_ok (k := k) (g := g) ht hP hx hs (acc := acc) (y := some (.fz y)) (by omega)
    cases q : stepR x tv place st with
    | on p s =>
      obtain ⟨s1, s2, s3⟩ := step_ok ht hP hx hs q
      obtain ⟨σ, ih⟩ := law_trace_loop ht hP r p s (acc ++ [pairD place st]) (by omega) s2 s3 (by rw [List.length_append]; simp only [List.length_cons, List.length_nil]; omega)
      rw [q] at b
      obtain ⟨a1, a2, a3, a4, b⟩ := b
      refine ⟨σ, ?_⟩
      have rp : runP P tv (r.length + 1) place st = (pairD place st :: (runP P tv r.length p s).1, (runP P tv r.length p s).2) := by
        rw [runP, hx]
        simp only [q]
      rw [List.length_cons, rp]
      simp only [List.append_assoc, List.cons_append, List.nil_append] at ih
      rw [← ih]
      simp [forL, b]
    | off e =>
      rw [q] at b
      obtain ⟨σ, b⟩ := b
      refine ⟨σ, ?_⟩
      have rp : runP P tv (r.length + 1) place st = ([pairD place st], e) := by
        rw [runP, hx]
        simp only [q]
      rw [List.length_cons, rp]
      simp [forL, b]
/-! ### told -/
def told (P : List Ins) (tv : List (Option Int)) : List D × D := runP P tv P.length 0 []
theorem st0 : StOk [] := ⟨Nat.zero_le _, fun _ h => absurd h (by simp)⟩
theorem trace_ok {gs : Nat} {P : List Ins} {tv : List (Option Int)} (ht : tv.length = gs) (hP : Pr gs P) : callN 4100 tab (k + 4) 17 [.fz (encP P), .fz (tuD tv)] g = .ok (.fz (.tuple [.list (told P tv).1, (told P tv).2])) g := by
  rw [callN_at (f := ⟨2, 5, b_trace⟩) rfl]
  have lo := hP.lo
  have hi := hP.hi
  obtain ⟨σ, lp⟩ := trace_loop (k := k) (g := g) ht hP (rngD 0 P.length) 0 [] [] (by rw [rngD_len]; omega) (by omega) st0 (by rw [rngD_len]; simp only [List.length_nil]; omega)
  rw [rngD_len] at lp
  simp only [List.nil_append] at lp
  have r := rng1N (n := P.length) (by omega)
  have ln : pyLen (encP P) = some (.fz (.int P.length)) := by simp [encP]
  have pd : PyData.tuple [.int 0, .tuple []] = pairD 0 [] := rfl
  simp [semF, runF, b_trace, ln, r, pd, lp, told]
theorem law_trace_ok {gs : Nat} {P : List Ins} {tv : List (Option Int)} (ht : tv.length = gs) (hP : Pr gs P) : callN 4100 tab (k + 2) 13 [.fz (encP P), .fz (tuD tv)] g = .ok (.fz (.tuple [.list (told P tv).1, (told P tv).2])) g := by
  rw [callN_at (f := ⟨2, 9, b_law_trace⟩) rfl]
  show semF 2 9 (b_law_trace (callN 4100 tab (k + 1)) 4100) _ _ = _
  rw [law_trace_cut]
  have lo := hP.lo
  have hi := hP.hi
  obtain ⟨σ, lp⟩ := law_trace_loop (k := k) (g := g) ht hP (rngD 0 P.length) 0 [] [] (by rw [rngD_len]; omega) (by omega) st0 (by rw [rngD_len]; simp only [List.length_nil]; omega)
  rw [rngD_len] at lp
  simp only [List.nil_append] at lp
  have r := rng1N (n := P.length) (by omega)
  have ln : pyLen (encP P) = some (.fz (.int P.length)) := by simp [encP]
  have se : stD [] = .tuple [] := rfl
  rw [se] at lp
  rw [show ((0 : Nat) : Int) = 0 from rfl] at lp
  simp [semF, runF, ln, r, lp, told]
/-- what a run tells is small -/
theorem sm_ints (st : List Int) (h : st.length < 2 ^ 60) : Sm 1 (stD st) := by
  refine ⟨by rw [R_len]; exact h, fun d hd => ?_⟩
  unfold R at hd
  rw [List.mem_map] at hd
  obtain ⟨z, _, rfl⟩ := hd
  exact trivial
theorem sm_up : ∀ (n : Nat) (d : D), Sm n d → Sm (n + 1) d
  | 0, d, h => by cases d <;> first | exact trivial | exact absurd h (by simp [Sm])
  | n + 1, d, h => by
    cases d with
    | list ds =>
      have h : ds.length < 2 ^ 60 ∧ ∀ d ∈ ds, Sm n d := h
      exact ⟨h.1, fun d hd => sm_up n d (h.2 d hd)⟩
    | tuple ds =>
      have h : ds.length < 2 ^ 60 ∧ ∀ d ∈ ds, Sm n d := h
      exact ⟨h.1, fun d hd => sm_up n d (h.2 d hd)⟩
    | dict _ => exact absurd h (by simp [Sm])
    | _ => exact trivial
theorem off_sm (x : Ins) (tv : List (Option Int)) (place : Nat) (st : List Int) (e : D) (h : stepR x tv place st = .off e) : Sm 1 e := by
  have b : Sm 1 (brk place) := ⟨by simp, fun d hd => by
    simp only [List.mem_cons, List.not_mem_nil, or_false] at hd
    rcases hd with rfl | rfl <;> exact trivial⟩
  have gr : isGrow x = true → Sm 1 e := fun hg => by
    rw [grow_step hg] at h
    split at h
    · cases h
      exact b
    · cases h
  cases x with
  | fin =>
    cases h
    refine ⟨by simp, fun d hd => ?_⟩
    rw [List.mem_singleton] at hd
    subst hd
    exact trivial
  | skip j p => cases h
  | ring t =>
    unfold stepR at h
    cases st with
    | nil =>
      cases h
      exact b
    | cons b r =>
      simp only at h
      split at h
      · cases h
      · cases h
        refine ⟨by simp, fun d hd => ?_⟩
        simp only [List.mem_cons, List.not_mem_nil, or_false] at hd
        rcases hd with rfl | rfl <;> exact trivial
  | _ => exact gr rfl
theorem runP_sm {gs : Nat} {P : List Ins} {tv : List (Option Int)} (ht : tv.length = gs) (hP : Pr gs P) : ∀ (n place : Nat) (st : List Int), StOk st → (runP P tv n place st).1.length ≤ n ∧ (∀ d ∈ (runP P tv n place st).1, Sm 2 d) ∧ Sm 1 (runP P tv n place st).2
  | 0, _, _, _ => ⟨Nat.le_refl _, fun _ h => absurd h (by simp [runP]), trivial⟩
  | n + 1, place, st, hs => by
    have pr : Sm 2 (pairD place st) := ⟨by simp, fun d hd => by
      simp only [List.mem_cons, List.not_mem_nil, or_false] at hd
      rcases hd with rfl | rfl
      · exact trivial
      · exact sm_ints st (by have := hs.1; omega)⟩
    cases hx : P[place]? with
    | none =>
      rw [runP, hx]
      exact ⟨Nat.zero_le _, fun _ h => absurd h (by simp), trivial⟩
    | some x =>
      rw [runP, hx]
      simp only
      cases q : stepR x tv place st with
      | on p s =>
        obtain ⟨h1, h2, h3⟩ := runP_sm ht hP n p s (step_ok ht hP hx hs q).2.2
        refine ⟨by simp only [List.length_cons]; omega, fun d hd => ?_, h3⟩
        rcases List.mem_cons.mp hd with rfl | hd
        · exact pr
        · exact h2 d hd
      | off e =>
        refine ⟨by simp only [List.length_cons, List.length_nil]; omega, fun d hd => ?_, off_sm _ _ _ _ _ q⟩
        rw [List.mem_singleton] at hd
        subst hd
        exact pr
theorem run_told_ok {gs : Nat} {P : List Ins} {tv : List (Option Int)} (ht : tv.length = gs) (hP : Pr gs P) : callN 4100 tab (k + 6) 20 [.fz (encP P), .fz (tuD tv)] g = .ok (.fz (.bool true)) g := by
  have hL : tab[2]? = some ⟨2, 3, b_law_same⟩ := tab_lib rfl
  obtain ⟨h1, h2, h3⟩ := runP_sm ht hP P.length 0 [] st0
  have hi := hP.hi
  have tr : ∀ k, callN 4100 tab (k + 4) 17 [.fz (encP P), .fz (tuD tv)] g = _ := fun k => trace_ok ht hP
  have run : callN 4100 tab (k + 5) 18 [.fz (encP P), .fz (tuD tv)] g = .ok (.fz (told P tv).2) g := by
    rw [callN_at (f := ⟨2, 2, b_run⟩) rfl]
    simp [semF, runF, b_run, tr, ix1]
  have steps : callN 4100 tab (k + 5) 19 [.fz (encP P), .fz (tuD tv)] g = .ok (.fz (.int (told P tv).1.length)) g := by
    rw [callN_at (f := ⟨2, 2, b_steps_of⟩) rfl]
    simp [semF, runF, b_steps_of, tr, ix0]
  have lt : callN 4100 tab (k + 5) 13 [.fz (encP P), .fz (tuD tv)] g = _ := law_trace_ok (k := k + 3) ht hP
  have tr5 := tr (k + 1)
  have smA : Sm 4 (.tuple [.list (told P tv).1, (told P tv).2]) := ⟨by simp, fun d hd => by
    simp only [List.mem_cons, List.not_mem_nil, or_false] at hd
    rcases hd with rfl | rfl
    · exact ⟨by unfold told; omega, h2⟩
    · exact sm_up _ _ (sm_up _ _ h3)⟩
  have s1 : callN 4100 tab (k + 5) 2 [.fz (.tuple [.list (told P tv).1, (told P tv).2]), .fz (.tuple [.list (told P tv).1, (told P tv).2])] g = .ok (.fz (.bool true)) g := same_refl hL 4 _ smA (k + 4) (by omega)
  have s2 : callN 4100 tab (k + 5) 2 [.fz (told P tv).2, .fz (told P tv).2] g = .ok (.fz (.bool true)) g := same_refl hL 1 _ h3 (k + 4) (by omega)
  have s3 : callN 4100 tab (k + 5) 2 [.fz (.int (told P tv).1.length), .fz (.int (told P tv).1.length)] g = .ok (.fz (.bool true)) g := same_refl hL 0 (.int (told P tv).1.length) trivial (k + 4) (by omega)
  rw [callN_at (f := ⟨2, 4, b_law_run_told⟩) rfl]
  simp [semF, runF, b_law_run_told, tr5, run, steps, lt, s1, s2, s3]
end
end
end K74
namespace K74
noncomputable section
open PySem FD
section
variable {k : Nat} {g : G}
theorem hTake : tab[1]? = some ⟨2, 5, b_law_take⟩ := tab_lib rfl
theorem tk {k c : Nat} {g : G} (h : Dk c g) (hc : c < 2 ^ 40) {m : Int} (hm : 0 < m) : ∃ v g', callN 4100 tab (k + 1) 1 [.deal, .fz (.int m)] g = .ok (.fz (.int v)) g' ∧ 0 ≤ v ∧ v < m ∧ Dk (c + 1) g' := take_ok hTake h hc hm
theorem inI2 (v a b : Int) : pyIn (.int v) (.list [.int a, .int b]) = some (a == v || b == v) := by simp [pyIn]
theorem inI4 (v a b c d : Int) : pyIn (.int v) (.list [.int a, .int b, .int c, .int d]) = some (a == v || (b == v || (c == v || d == v))) := by simp [pyIn]
theorem instruction_ok {gs many place c : Nat} (hp : place + 1 < many) (h : Dk c g) (hc : c < 2 ^ 30) :
    ∃ x g', callN 4100 tab (k + 2) 4 [.deal, .fz (.int place), .fz (.int many), .fz (.int gs)] g = .ok (.fz (enc x)) g' ∧ Va gs many place x ∧ Dk (c + 3) g' := by
  obtain ⟨v, g1, e1, v1, v2, h1⟩ := tk (k := k) h (by omega) (m := 15) (by decide)
  rw [callN_at (f := ⟨4, 5, b_law_instruction⟩) rfl]
  have d1 : Dk (c + 3) g1 := h1.mono (by omega)
  have o0 : pyIx (.list [.tuple [.str "times"], .tuple [.str "add"], .tuple [.str "less"], .tuple [.str "least"]]) (.int 0) = some (.fz (.tuple [.str "times"])) := ixL (n := 0) rfl rfl
  have o1 : pyIx (.list [.tuple [.str "times"], .tuple [.str "add"], .tuple [.str "less"], .tuple [.str "least"]]) (.int 1) = some (.fz (.tuple [.str "add"])) := ixL (n := 1) rfl rfl
  have o2 : pyIx (.list [.tuple [.str "times"], .tuple [.str "add"], .tuple [.str "less"], .tuple [.str "least"]]) (.int 2) = some (.fz (.tuple [.str "less"])) := ixL (n := 2) rfl rfl
  have o3 : pyIx (.list [.tuple [.str "times"], .tuple [.str "add"], .tuple [.str "less"], .tuple [.str "least"]]) (.int 3) = some (.fz (.tuple [.str "least"])) := ixL (n := 3) rfl rfl
  have q0 : pyIx (.list [.int 2147483647, .int (-2147483648), .int 65536, .int (-46341)]) (.int 0) = some (.fz (.int 2147483647)) := ixL (n := 0) rfl rfl
  have q1 : pyIx (.list [.int 2147483647, .int (-2147483648), .int 65536, .int (-46341)]) (.int 1) = some (.fz (.int (-2147483648))) := ixL (n := 1) rfl rfl
  have q2 : pyIx (.list [.int 2147483647, .int (-2147483648), .int 65536, .int (-46341)]) (.int 2) = some (.fz (.int 65536)) := ixL (n := 2) rfl rfl
  have q3 : pyIx (.list [.int 2147483647, .int (-2147483648), .int 65536, .int (-46341)]) (.int 3) = some (.fz (.int (-46341))) := ixL (n := 3) rfl rfl
  obtain ⟨u9, g9, e9, l9, b9, h9⟩ := tk (k := k) h1 (by omega) (m := 9) (by decide)
  obtain ⟨u4, g4, e4, l4, b4, h4⟩ := tk (k := k) h1 (by omega) (m := 4) (by decide)
  obtain ⟨ur, gr, er, lr, br, hr⟩ := tk (k := k) h1 (by omega) (m := 1000) (by decide)
  have p9 : Va gs many place (.push (u9 - 4)) := ⟨by omega, by omega⟩
  have f9 : Dk (c + 3) g9 := h9.mono (by omega)
  have n1 : 0 < gs ∨ gs = 0 := by omega
  have hp2 : (place : Int) + 1 < many := by omega
  have hcas : v = 0 ∨ v = 1 ∨ v = 2 ∨ v = 3 ∨ v = 4 ∨ v = 5 ∨ v = 6 ∨ v = 7 ∨ v = 8 ∨ v = 9 ∨ v = 10 ∨ v = 11 ∨ v = 12 ∨ v = 13 ∨ v = 14 := by omega
  rcases hcas with rfl | rfl | rfl | rfl | rfl | rfl | rfl | rfl | rfl | rfl | rfl | rfl | rfl | rfl | rfl
  · refine ⟨.push (u9 - 4), g9, ?_, p9, f9⟩
    rcases n1 with n1 | n1
    · simp [semF, runF, b_law_instruction, e1, inI2, inI4, n1, e9, enc]
    · simp [semF, runF, b_law_instruction, e1, inI2, inI4, n1, e9, enc]
  · refine ⟨.push (u9 - 4), g9, ?_, p9, f9⟩
    rcases n1 with n1 | n1
    · simp [semF, runF, b_law_instruction, e1, inI2, inI4, n1, e9, enc]
    · simp [semF, runF, b_law_instruction, e1, inI2, inI4, n1, e9, enc]
  · refine ⟨.push (u9 - 4), g9, ?_, p9, f9⟩
    rcases n1 with n1 | n1
    · simp [semF, runF, b_law_instruction, e1, inI2, inI4, n1, e9, enc]
    · simp [semF, runF, b_law_instruction, e1, inI2, inI4, n1, e9, enc]
  · refine ⟨.push (u9 - 4), g9, ?_, p9, f9⟩
    rcases n1 with n1 | n1
    · simp [semF, runF, b_law_instruction, e1, inI2, inI4, n1, e9, enc]
    · simp [semF, runF, b_law_instruction, e1, inI2, inI4, n1, e9, enc]
  · refine ⟨.push (u9 - 4), g9, ?_, p9, f9⟩
    rcases n1 with n1 | n1
    · simp [semF, runF, b_law_instruction, e1, inI2, inI4, n1, e9, enc]
    · simp [semF, runF, b_law_instruction, e1, inI2, inI4, n1, e9, enc]
  · rcases n1 with n1 | n1
    · obtain ⟨u, g2, e2, u1, u2, h2⟩ := tk (k := k) h1 (by omega) (m := (gs : Int)) (by omega)
      refine ⟨.reading u, g2, ?_, ⟨u1, u2⟩, h2.mono (by omega)⟩
      simp [semF, runF, b_law_instruction, e1, inI2, inI4, n1, e2, enc]
    · refine ⟨.push (u9 - 4), g9, ?_, p9, f9⟩
      simp [semF, runF, b_law_instruction, e1, inI2, inI4, n1, e9, enc]
  · rcases n1 with n1 | n1
    · obtain ⟨u, g2, e2, u1, u2, h2⟩ := tk (k := k) h1 (by omega) (m := (gs : Int)) (by omega)
      refine ⟨.reading u, g2, ?_, ⟨u1, u2⟩, h2.mono (by omega)⟩
      simp [semF, runF, b_law_instruction, e1, inI2, inI4, n1, e2, enc]
    · refine ⟨.push (u9 - 4), g9, ?_, p9, f9⟩
      simp [semF, runF, b_law_instruction, e1, inI2, inI4, n1, e9, enc]
  · refine ⟨.times, g1, ?_, trivial, d1⟩
    rcases n1 with n1 | n1
    · simp [semF, runF, b_law_instruction, e1, inI2, inI4, n1, o0, enc]
    · simp [semF, runF, b_law_instruction, e1, inI2, inI4, n1, o0, enc]
  · refine ⟨.add, g1, ?_, trivial, d1⟩
    rcases n1 with n1 | n1
    · simp [semF, runF, b_law_instruction, e1, inI2, inI4, n1, o1, enc]
    · simp [semF, runF, b_law_instruction, e1, inI2, inI4, n1, o1, enc]
  · refine ⟨.less, g1, ?_, trivial, d1⟩
    rcases n1 with n1 | n1
    · simp [semF, runF, b_law_instruction, e1, inI2, inI4, n1, o2, enc]
    · simp [semF, runF, b_law_instruction, e1, inI2, inI4, n1, o2, enc]
  · refine ⟨.least, g1, ?_, trivial, d1⟩
    rcases n1 with n1 | n1
    · simp [semF, runF, b_law_instruction, e1, inI2, inI4, n1, o3, enc]
    · simp [semF, runF, b_law_instruction, e1, inI2, inI4, n1, o3, enc]
  · refine ⟨.ring ur, gr, ?_, ⟨lr, br⟩, hr.mono (by omega)⟩
    rcases n1 with n1 | n1
    · simp [semF, runF, b_law_instruction, e1, inI2, inI4, n1, er, enc]
    · simp [semF, runF, b_law_instruction, e1, inI2, inI4, n1, er, enc]
  · rcases n1 with n1 | n1
    · obtain ⟨u, g2, e2, u1, u2, h2⟩ := tk (k := k) h1 (by omega) (m := (gs : Int)) (by omega)
      obtain ⟨t, g3, e3, t1, t2, h3⟩ := tk (k := k) h2 (by omega) (m := (many : Int) - 1 - place) (by omega)
      refine ⟨.skip u (place + 1 + t), g3, ?_, ⟨⟨u1, u2⟩, by omega, by omega⟩, h3.mono (by omega)⟩
      simp [semF, runF, b_law_instruction, e1, inI2, inI4, n1, hp2, e2, e3, enc]
    · refine ⟨.push (u9 - 4), g9, ?_, p9, f9⟩
      simp [semF, runF, b_law_instruction, e1, inI2, inI4, n1, e9, enc]
  · have hu : u4 = 0 ∨ u4 = 1 ∨ u4 = 2 ∨ u4 = 3 := by omega
    rcases hu with rfl | rfl | rfl | rfl
    · refine ⟨.push 2147483647, g4, ?_, ⟨by decide, by decide⟩, h4.mono (by omega)⟩
      rcases n1 with n1 | n1
      · simp [semF, runF, b_law_instruction, e1, inI2, inI4, n1, e4, q0, enc]
      · simp [semF, runF, b_law_instruction, e1, inI2, inI4, n1, e4, q0, enc]
    · refine ⟨.push (-2147483648), g4, ?_, ⟨by decide, by decide⟩, h4.mono (by omega)⟩
      rcases n1 with n1 | n1
      · simp [semF, runF, b_law_instruction, e1, inI2, inI4, n1, e4, q1, enc]
      · simp [semF, runF, b_law_instruction, e1, inI2, inI4, n1, e4, q1, enc]
    · refine ⟨.push 65536, g4, ?_, ⟨by decide, by decide⟩, h4.mono (by omega)⟩
      rcases n1 with n1 | n1
      · simp [semF, runF, b_law_instruction, e1, inI2, inI4, n1, e4, q2, enc]
      · simp [semF, runF, b_law_instruction, e1, inI2, inI4, n1, e4, q2, enc]
    · refine ⟨.push (-46341), g4, ?_, ⟨by decide, by decide⟩, h4.mono (by omega)⟩
      rcases n1 with n1 | n1
      · simp [semF, runF, b_law_instruction, e1, inI2, inI4, n1, e4, q3, enc]
      · simp [semF, runF, b_law_instruction, e1, inI2, inI4, n1, e4, q3, enc]
  · refine ⟨.push (u9 - 4), g9, ?_, p9, f9⟩
    rcases n1 with n1 | n1
    · simp [semF, runF, b_law_instruction, e1, inI2, inI4, n1, e9, enc]
    · simp [semF, runF, b_law_instruction, e1, inI2, inI4, n1, e9, enc]
end
end
end K74
namespace K74
noncomputable section
open PySem FD
section
variable {k : Nat} {g : G}
theorem program_loop {gs many : Nat} {s1 : SV} (hs1 : ∃ d, s1 = .fz d) : ∀ (js : List Nat) (acc : List D) (g : G) (c : Nat), Dk c g → c + 3 * js.length < 2 ^ 30 → (∀ j ∈ js, j + 1 < many) → acc.length + js.length ≤ 10000 →
    ∃ (ys : List Ins) (g' : G), compL (gNm 5) cYes (cD (cCall (callN 4100 tab (k + 2)) 4 (cACons (cVE 0) (cACons (cVE 5) (cACons (cVE 3) (cACons (cVE 2) cANil)))))) [5] (js.map fun (j : Nat) => PyData.int j) acc [some .deal, some s1, some (.fz (.int gs)), some (.fz (.int many)), none, none] g
      = .ok (acc ++ ys.map enc) [some .deal, some s1, some (.fz (.int gs)), some (.fz (.int many)), none, none] g' ∧ Dk (c + 3 * js.length) g' ∧ ys.length = js.length ∧ ∀ (i j : Nat), js[i]? = some j → ∃ x, ys[i]? = some x ∧ Va gs many j x
  | [], acc, g, c, h, _, _, _ => ⟨[], g, by simp [compL], h, rfl, fun i j e => by simp at e⟩
  | j :: r, acc, g, c, h, hc, hj, ha => by
    rw [List.length_cons] at hc ha
    obtain ⟨x, g1, e1, v1, d1⟩ := instruction_ok (k := k) (gs := gs) (hj j List.mem_cons_self) h (by omega)
    obtain ⟨ys, g2, e2, d2, l2, a2⟩ := program_loop (gs := gs) hs1 r (acc ++ [enc x]) g1 (c + 3) d1 (by omega) (fun j hj' => hj j (List.mem_cons_of_mem _ hj')) (by rw [List.length_append]; simp only [List.length_cons, List.length_nil]; omega)
    refine ⟨x :: ys, g2, ?_, by rw [List.length_cons]; exact d2.mono (by omega), by rw [List.length_cons, List.length_cons, l2], fun i j' e => ?_⟩
    · have l : acc.length < 16777216 := by omega
      simp only [List.append_assoc, List.cons_append, List.nil_append] at e2
      simp [compL, e1, l, e2]
    · cases i with
      | zero =>
        cases e
        exact ⟨x, rfl, v1⟩
      | succ i => exact a2 i j' e
theorem range_get {n i j : Nat} (h : (List.range n)[i]? = some j) : j = i ∧ i < n := by
  rw [List.getElem?_eq_some_iff] at h
  obtain ⟨q, e⟩ := h
  rw [List.length_range] at q
  rw [List.getElem_range] at e
  exact ⟨e.symm, q⟩
theorem rngD_nat (n : Nat) : rngD 0 n = (List.range n).map fun (j : Nat) => PyData.int j := by
  unfold rngD
  simp
theorem va_up {gs m m' p : Nat} (h : m ≤ m') {x : Ins} (v : Va gs m p x) : Va gs m' p x := by
  cases x <;> first | exact v | exact ⟨v.1, v.2.1, by have := v.2.2; omega⟩
theorem pr_mk {gs : Nat} {ys : List Ins} (hl : ys.length + 1 ≤ 4000) (h : ∀ i x, ys[i]? = some x → Va gs (ys.length + 1) i x) : Pr gs (ys ++ [.fin]) := by
  refine ⟨by simp, by simp; omega, fun i x e => ?_, by simp⟩
  rw [List.length_append]
  by_cases q : i < ys.length
  · rw [List.getElem?_append_left q] at e
    exact h i x e
  · rw [List.getElem?_append_right (by omega)] at e
    have : x = .fin := by
      cases z : i - ys.length with
      | zero => rw [z] at e; exact (Option.some.inj e).symm
      | succ n => rw [z] at e; simp at e
    subst this
    exact trivial
theorem program_ok {gs size c : Nat} (hs : size < 1000) (h : Dk c g) (hc : c + 3 * size < 2 ^ 30) :
    ∃ P g', callN 4100 tab (k + 3) 5 [.deal, .fz (.int size), .fz (.int gs)] g = .ok (.fz (encP P)) g' ∧ Pr gs P ∧ P.length = size + 1 ∧ Dk (c + 3 * size) g' := by
  obtain ⟨ys, g', e, d, l, a⟩ := program_loop (k := k) (gs := gs) (many := size + 1) (s1 := .fz (.int size)) ⟨_, rfl⟩ (List.range size) [] g c h (by rw [List.length_range]; exact hc) (fun j hj => by rw [List.mem_range] at hj; omega) (by rw [List.length_range]; simp only [List.length_nil]; omega)
  rw [List.length_range] at d l
  refine ⟨ys ++ [.fin], g', ?_, pr_mk (by omega) fun i x hx => ?_, by simp [l], d⟩
  · rw [callN_at (f := ⟨3, 6, b_law_program⟩) rfl]
    rw [← rngD_nat] at e
    have r := rng1N (n := size) (by omega)
    have ee : (((size + 1 : Nat) : Int)) = 1 + (size : Int) := by omega
    rw [ee] at e
    have ad : pyAdd (.list (ys.map enc)) (.list [.tuple [.str "end"]]) = some (.ow (ys.map enc ++ [.tuple [.str "end"]])) := addL (by simp [l]; omega)
    have su : (1 : Int) + size - 1 = size := by omega
    simp only [List.nil_append] at e
    simp [cLc, semF, runF, b_law_program, su, r, e, ad, encP, enc]
  · have q : i < size := by
      cases Nat.lt_or_ge i ys.length with
      | inl q => omega
      | inr q => rw [List.getElem?_eq_none q] at hx; cases hx
    obtain ⟨z, h1, h2⟩ := a i i (by rw [List.getElem?_range q])
    rw [hx] at h1
    cases h1
    rw [l]
    exact h2
/-! ### a turn of gauges -/
theorem turn_loop {gs : Nat} : ∀ (js : List D) (acc : List D) (g : G) (c : Nat), Dk c g → c + 2 * js.length < 2 ^ 30 → acc.length + js.length ≤ 10000 →
    ∃ (tv : List (Option Int)) (g' : G), compL (gNm 2) cYes (cD (cIte (cCmp pyEq (cD (cCall (callN 4100 tab (k + 1)) 1 (cACons (cVE 0) (cACons (cK (.int 4)) cANil)))) (cD (cK (.int 0)))) (cK .none) (c2 pySub (cD (cCall (callN 4100 tab (k + 1)) 1 (cACons (cVE 0) (cACons (cK (.int 19)) cANil)))) (cD (cK (.int 9)))))) [2] js acc [some .deal, some (.fz (.int gs)), none] g
      = .ok (acc ++ tv.map optD) [some .deal, some (.fz (.int gs)), none] g' ∧ Dk (c + 2 * js.length) g' ∧ tv.length = js.length
  | [], acc, g, c, h, _, _ => ⟨[], g, by simp [compL], h, rfl⟩
  | j :: r, acc, g, c, h, hc, ha => by
    rw [List.length_cons] at hc ha
    have l : acc.length < 16777216 := by omega
    obtain ⟨v, g1, e1, _, _, d1⟩ := tk (k := k) h (by omega) (m := 4) (by decide)
    by_cases q : v = 0
    · obtain ⟨tv, g2, e2, d2, l2⟩ := turn_loop (gs := gs) r (acc ++ [.none]) g1 (c + 1) d1 (by omega) (by rw [List.length_append]; simp only [List.length_cons, List.length_nil]; omega)
      refine ⟨none :: tv, g2, ?_, by rw [List.length_cons]; exact d2.mono (by omega), by rw [List.length_cons, List.length_cons, l2]⟩
      simp only [List.append_assoc, List.cons_append, List.nil_append] at e2
      simp [compL, e1, l, e2, q, optD]
    · obtain ⟨u, g3, e3, _, _, d3⟩ := tk (k := k) d1 (by omega) (m := 19) (by decide)
      obtain ⟨tv, g2, e2, d2, l2⟩ := turn_loop (gs := gs) r (acc ++ [.int (u - 9)]) g3 (c + 1 + 1) d3 (by omega) (by rw [List.length_append]; simp only [List.length_cons, List.length_nil]; omega)
      refine ⟨some (u - 9) :: tv, g2, ?_, by rw [List.length_cons]; exact d2.mono (by omega), by rw [List.length_cons, List.length_cons, l2]⟩
      simp only [List.append_assoc, List.cons_append, List.nil_append] at e2
      simp [compL, e1, l, e2, e3, q, optD]
theorem turn_ok {gs c : Nat} (hg : gs < 1000) (h : Dk c g) (hc : c + 2 * gs < 2 ^ 30) : ∃ tv g', callN 4100 tab (k + 2) 21 [.deal, .fz (.int gs)] g = .ok (.fz (tuD tv)) g' ∧ tv.length = gs ∧ Dk (c + 2 * gs) g' := by
  obtain ⟨tv, g', e, d, l⟩ := turn_loop (k := k) (gs := gs) (rngD 0 gs) [] g c h (by rw [rngD_len]; exact hc) (by rw [rngD_len]; simp only [List.length_nil]; omega)
  rw [rngD_len] at d l
  refine ⟨tv, g', ?_, l, d⟩
  rw [callN_at (f := ⟨2, 3, b_law_turn⟩) rfl]
  have r := rng1N (n := gs) (by omega)
  simp only [List.nil_append] at e
  simp [cLc, semF, runF, b_law_turn, r, e, tuD]
/-! ### a row put in -/
def sh (place : Int) : Ins → Ins
  | .skip j p => if place < p then .skip j (p + 1) else .skip j p
  | x => x
def insD (P : List Ins) (place : Nat) (b : D) : D := .tuple ((P.map fun x => enc (sh place x)).take place ++ ([b] ++ (P.map fun x => enc (sh place x)).drop place))
theorem ins_loop {p : D} {place : Nat} {b : D} {s3 : Option SV} (hs3 : s3 = none) : ∀ (xs : List Ins) (acc : List D), acc.length + xs.length ≤ 10000 →
    compL (gNm 4) cYes (cD (cIte (cAnd (cCmp pyEq (cD (cVIx 4 (cD (cK (.int 0))))) (cD (cK (.str "skip")))) (cCmp pyGt (cD (cVIx 4 (cD (cK (.int 2))))) (cVP 1))) (cTup (cCons (cD (cVIx 4 (cD (cK (.int 0))))) (cCons (cD (cVIx 4 (cD (cK (.int 1))))) (cCons (cD (c2 pyAdd (cD (cVIx 4 (cD (cK (.int 2))))) (cD (cK (.int 1))))) cNil)))) (cVE 4))) [4] (xs.map enc) acc [some (.fz p), some (.fz (.int place)), some (.fz b), s3, none] g
      = .ok (acc ++ xs.map fun x => enc (sh place x)) [some (.fz p), some (.fz (.int place)), some (.fz b), s3, none] g
  | [], acc, _ => by simp [compL]
  | x :: r, acc, ha => by
    subst hs3
    rw [List.length_cons] at ha
    have l : acc.length < 16777216 := by omega
    have ih := ins_loop (p := p) (place := place) (b := b) (s3 := none) rfl r (acc ++ [enc (sh place x)]) (by rw [List.length_append]; simp only [List.length_cons, List.length_nil]; omega)
    simp only [List.append_assoc, List.cons_append, List.nil_append] at ih
    rw [List.map_cons, List.map_cons]
    cases x with
    | skip j q =>
      by_cases z : (place : Int) < q
      · simp only [sh, if_pos z, enc] at ih
        simp [compL, l, enc, ix0, ix1, ix2, z, sh, ih]
      · simp only [sh, if_neg z, enc] at ih
        simp [compL, l, enc, ix0, ix1, ix2, z, sh, ih]
    | _ =>
      simp only [sh, enc] at ih
      simp [compL, l, enc, ix0, sh, ih]
theorem inserted_ok {P : List Ins} {place : Nat} (hp : place ≤ P.length) (hl : P.length ≤ 4000) (b : D) : callN 4100 tab (k + 1) 6 [.fz (encP P), .fz (.int place), .fz b] g = .ok (.fz (insD P place b)) g := by
  rw [callN_at (f := ⟨3, 5, b_law_inserted⟩) rfl]
  have lp := ins_loop (g := g) (p := encP P) (place := place) (b := b) (s3 := none) rfl P [] (by simp only [List.length_nil]; omega)
  simp only [List.nil_append] at lp
  have t1 : cut (P.map fun x => enc (sh place x)) none (some (place : Int)) = _ := cutTo rfl (by rw [List.length_map]; exact hp)
  have t2 : cut (P.map fun x => enc (sh place x)) (some (place : Int)) none = _ := cutFrom rfl
  have a1 : pyAdd (.list ((P.map fun x => enc (sh place x)).take place)) (.list [b]) = _ := addL (by simp; omega)
  have a2 : pyAdd (.list ((P.map fun x => enc (sh place x)).take place ++ [b])) (.list ((P.map fun x => enc (sh place x)).drop place)) = _ := addL (by simp; omega)
  have sq : seqOf (encP P) = some (P.map enc) := rfl
  unfold encP at lp
  unfold encP
  simp [cLc, -List.map_take, -List.map_drop, semF, runF, b_law_inserted, lp, t1, t2, a1, a2, insD]
end
end
end K74
namespace K74
noncomputable section
open PySem FD
@[simp] theorem w_push_odd : (Str.ofString "push" == Str.ofString "odd") = false := by decide
@[simp] theorem w_reading_odd : (Str.ofString "reading" == Str.ofString "odd") = false := by decide
@[simp] theorem w_times_odd : (Str.ofString "times" == Str.ofString "odd") = false := by decide
@[simp] theorem w_add_odd : (Str.ofString "add" == Str.ofString "odd") = false := by decide
@[simp] theorem w_less_odd : (Str.ofString "less" == Str.ofString "odd") = false := by decide
@[simp] theorem w_least_odd : (Str.ofString "least" == Str.ofString "odd") = false := by decide
@[simp] theorem w_ring_odd : (Str.ofString "ring" == Str.ofString "odd") = false := by decide
@[simp] theorem w_skip_odd : (Str.ofString "skip" == Str.ofString "odd") = false := by decide
@[simp] theorem w_end_odd : (Str.ofString "end" == Str.ofString "odd") = false := by decide
@[simp] theorem sok_odd : PyData.strOk (Str.ofString "odd") = true := by decide +kernel
theorem in_odd : pyNotIn (.str "odd") (.tuple [(.str "push"), (.str "reading"), (.str "times"), (.str "add"), (.str "less"), (.str "least"), (.str "ring"), (.str "skip"), (.str "end")]) = some true := by simp [pyNotIn, pyIn]
section
variable {k : Nat} {g : G}
def Bd (gs L place : Nat) (b : D) : Prop := ∀ (k : Nat) (g : G), callN 4100 tab (k + 2) 9 [.fz b, .fz (.int place), .fz (.int L), .fz (.int gs)] g = .ok (.fz (.bool false)) g
theorem len_at (n : Nat) (x : D) (h : [(.int 2), (.int 2), (.int 1), (.int 1), (.int 1), (.int 1), (.int 2), (.int 3), (.int 1)][n]? = some x) : pyIx (.tuple [(.int 2), (.int 2), (.int 1), (.int 1), (.int 1), (.int 1), (.int 2), (.int 3), (.int 1)]) (.int n) = some (.fz x) := ixU rfl h
theorem len_0 : pyIx (.tuple [(.int 2), (.int 2), (.int 1), (.int 1), (.int 1), (.int 1), (.int 2), (.int 3), (.int 1)]) (.int 0) = some (.fz (.int 2)) := len_at 0 _ rfl
theorem len_1 : pyIx (.tuple [(.int 2), (.int 2), (.int 1), (.int 1), (.int 1), (.int 1), (.int 2), (.int 3), (.int 1)]) (.int 1) = some (.fz (.int 2)) := len_at 1 _ rfl
theorem len_2 : pyIx (.tuple [(.int 2), (.int 2), (.int 1), (.int 1), (.int 1), (.int 1), (.int 2), (.int 3), (.int 1)]) (.int 2) = some (.fz (.int 1)) := len_at 2 _ rfl
theorem len_3 : pyIx (.tuple [(.int 2), (.int 2), (.int 1), (.int 1), (.int 1), (.int 1), (.int 2), (.int 3), (.int 1)]) (.int 3) = some (.fz (.int 1)) := len_at 3 _ rfl
theorem len_4 : pyIx (.tuple [(.int 2), (.int 2), (.int 1), (.int 1), (.int 1), (.int 1), (.int 2), (.int 3), (.int 1)]) (.int 4) = some (.fz (.int 1)) := len_at 4 _ rfl
theorem len_5 : pyIx (.tuple [(.int 2), (.int 2), (.int 1), (.int 1), (.int 1), (.int 1), (.int 2), (.int 3), (.int 1)]) (.int 5) = some (.fz (.int 1)) := len_at 5 _ rfl
theorem len_6 : pyIx (.tuple [(.int 2), (.int 2), (.int 1), (.int 1), (.int 1), (.int 1), (.int 2), (.int 3), (.int 1)]) (.int 6) = some (.fz (.int 2)) := len_at 6 _ rfl
theorem len_7 : pyIx (.tuple [(.int 2), (.int 2), (.int 1), (.int 1), (.int 1), (.int 1), (.int 2), (.int 3), (.int 1)]) (.int 7) = some (.fz (.int 3)) := len_at 7 _ rfl
theorem len_8 : pyIx (.tuple [(.int 2), (.int 2), (.int 1), (.int 1), (.int 1), (.int 1), (.int 2), (.int 3), (.int 1)]) (.int 8) = some (.fz (.int 1)) := len_at 8 _ rfl
theorem bd_push1 (gs L place : Nat)  : Bd gs L place (.tuple [.str "push", .int 2147483648]) := by
  intro k g
  rw [callN_at (f := ⟨4, 4, b_is_instruction⟩) rfl]
  simp [cLc, semF, runF, b_is_instruction, ix0, ix1, ix2, is_word_ok, in_push, in_reading, in_ring, in_skip, in_times, in_add, in_less, in_least, in_odd, ix_push, ix_reading, ix_ring, ix_skip, ix_times, ix_add, ix_less, ix_least, len_0, len_1, len_2, len_3, len_4, len_5, len_6, len_7]
theorem bd_push2 (gs L place : Nat)  : Bd gs L place (.tuple [.str "push", .int (-2147483649)]) := by
  intro k g
  rw [callN_at (f := ⟨4, 4, b_is_instruction⟩) rfl]
  simp [cLc, semF, runF, b_is_instruction, ix0, ix1, ix2, is_word_ok, in_push, in_reading, in_ring, in_skip, in_times, in_add, in_less, in_least, in_odd, ix_push, ix_reading, ix_ring, ix_skip, ix_times, ix_add, ix_less, ix_least, len_0, len_1, len_2, len_3, len_4, len_5, len_6, len_7]
theorem bd_push3 (gs L place : Nat)  : Bd gs L place (.tuple [.str "push"]) := by
  intro k g
  rw [callN_at (f := ⟨4, 4, b_is_instruction⟩) rfl]
  simp [cLc, semF, runF, b_is_instruction, ix0, ix1, ix2, is_word_ok, in_push, in_reading, in_ring, in_skip, in_times, in_add, in_less, in_least, in_odd, ix_push, ix_reading, ix_ring, ix_skip, ix_times, ix_add, ix_less, ix_least, len_0, len_1, len_2, len_3, len_4, len_5, len_6, len_7]
theorem bd_push4 (gs L place : Nat)  : Bd gs L place (.tuple [.str "push", .int 1, .int 1]) := by
  intro k g
  rw [callN_at (f := ⟨4, 4, b_is_instruction⟩) rfl]
  simp [cLc, semF, runF, b_is_instruction, ix0, ix1, ix2, is_word_ok, in_push, in_reading, in_ring, in_skip, in_times, in_add, in_less, in_least, in_odd, ix_push, ix_reading, ix_ring, ix_skip, ix_times, ix_add, ix_less, ix_least, len_0, len_1, len_2, len_3, len_4, len_5, len_6, len_7]
theorem bd_read1 (gs L place : Nat)  : Bd gs L place (.tuple [.str "reading", .int gs]) := by
  intro k g
  rw [callN_at (f := ⟨4, 4, b_is_instruction⟩) rfl]
  simp [cLc, semF, runF, b_is_instruction, ix0, ix1, ix2, is_word_ok, in_push, in_reading, in_ring, in_skip, in_times, in_add, in_less, in_least, in_odd, ix_push, ix_reading, ix_ring, ix_skip, ix_times, ix_add, ix_less, ix_least, len_0, len_1, len_2, len_3, len_4, len_5, len_6, len_7]
theorem bd_read2 (gs L place : Nat)  : Bd gs L place (.tuple [.str "reading", .int (-1)]) := by
  intro k g
  rw [callN_at (f := ⟨4, 4, b_is_instruction⟩) rfl]
  simp [cLc, semF, runF, b_is_instruction, ix0, ix1, ix2, is_word_ok, in_push, in_reading, in_ring, in_skip, in_times, in_add, in_less, in_least, in_odd, ix_push, ix_reading, ix_ring, ix_skip, ix_times, ix_add, ix_less, ix_least, len_0, len_1, len_2, len_3, len_4, len_5, len_6, len_7]
theorem bd_ring1 (gs L place : Nat)  : Bd gs L place (.tuple [.str "ring", .int 1000]) := by
  intro k g
  rw [callN_at (f := ⟨4, 4, b_is_instruction⟩) rfl]
  simp [cLc, semF, runF, b_is_instruction, ix0, ix1, ix2, is_word_ok, in_push, in_reading, in_ring, in_skip, in_times, in_add, in_less, in_least, in_odd, ix_push, ix_reading, ix_ring, ix_skip, ix_times, ix_add, ix_less, ix_least, len_0, len_1, len_2, len_3, len_4, len_5, len_6, len_7]
theorem bd_ring2 (gs L place : Nat)  : Bd gs L place (.tuple [.str "ring", .int (-1)]) := by
  intro k g
  rw [callN_at (f := ⟨4, 4, b_is_instruction⟩) rfl]
  simp [cLc, semF, runF, b_is_instruction, ix0, ix1, ix2, is_word_ok, in_push, in_reading, in_ring, in_skip, in_times, in_add, in_less, in_least, in_odd, ix_push, ix_reading, ix_ring, ix_skip, ix_times, ix_add, ix_less, ix_least, len_0, len_1, len_2, len_3, len_4, len_5, len_6, len_7]
theorem bd_skip1 (gs L place : Nat) (z : Int) : Bd gs L place (.tuple [.str "skip", .int gs, .int z]) := by
  intro k g
  rw [callN_at (f := ⟨4, 4, b_is_instruction⟩) rfl]
  simp [cLc, semF, runF, b_is_instruction, ix0, ix1, ix2, is_word_ok, in_push, in_reading, in_ring, in_skip, in_times, in_add, in_less, in_least, in_odd, ix_push, ix_reading, ix_ring, ix_skip, ix_times, ix_add, ix_less, ix_least, len_0, len_1, len_2, len_3, len_4, len_5, len_6, len_7]
theorem bd_odd (gs L place : Nat)  : Bd gs L place (.tuple [.str "odd"]) := by
  intro k g
  rw [callN_at (f := ⟨4, 4, b_is_instruction⟩) rfl]
  simp [cLc, semF, runF, b_is_instruction, ix0, ix1, ix2, is_word_ok, in_push, in_reading, in_ring, in_skip, in_times, in_add, in_less, in_least, in_odd, ix_push, ix_reading, ix_ring, ix_skip, ix_times, ix_add, ix_less, ix_least, len_0, len_1, len_2, len_3, len_4, len_5, len_6, len_7]
theorem bd_times (gs L place : Nat)  : Bd gs L place (.tuple [.str "times", .int 1]) := by
  intro k g
  rw [callN_at (f := ⟨4, 4, b_is_instruction⟩) rfl]
  simp [cLc, semF, runF, b_is_instruction, ix0, ix1, ix2, is_word_ok, in_push, in_reading, in_ring, in_skip, in_times, in_add, in_less, in_least, in_odd, ix_push, ix_reading, ix_ring, ix_skip, ix_times, ix_add, ix_less, ix_least, len_0, len_1, len_2, len_3, len_4, len_5, len_6, len_7]
theorem bd_add (gs L place : Nat)  : Bd gs L place (.tuple [.str "add", .int 0]) := by
  intro k g
  rw [callN_at (f := ⟨4, 4, b_is_instruction⟩) rfl]
  simp [cLc, semF, runF, b_is_instruction, ix0, ix1, ix2, is_word_ok, in_push, in_reading, in_ring, in_skip, in_times, in_add, in_less, in_least, in_odd, ix_push, ix_reading, ix_ring, ix_skip, ix_times, ix_add, ix_less, ix_least, len_0, len_1, len_2, len_3, len_4, len_5, len_6, len_7]
theorem bd_less (gs L place : Nat)  : Bd gs L place (.tuple [.str "less", .int 2]) := by
  intro k g
  rw [callN_at (f := ⟨4, 4, b_is_instruction⟩) rfl]
  simp [cLc, semF, runF, b_is_instruction, ix0, ix1, ix2, is_word_ok, in_push, in_reading, in_ring, in_skip, in_times, in_add, in_less, in_least, in_odd, ix_push, ix_reading, ix_ring, ix_skip, ix_times, ix_add, ix_less, ix_least, len_0, len_1, len_2, len_3, len_4, len_5, len_6, len_7]
theorem bd_least (gs L place : Nat)  : Bd gs L place (.tuple [.str "least", .int 3]) := by
  intro k g
  rw [callN_at (f := ⟨4, 4, b_is_instruction⟩) rfl]
  simp [cLc, semF, runF, b_is_instruction, ix0, ix1, ix2, is_word_ok, in_push, in_reading, in_ring, in_skip, in_times, in_add, in_less, in_least, in_odd, ix_push, ix_reading, ix_ring, ix_skip, ix_times, ix_add, ix_less, ix_least, len_0, len_1, len_2, len_3, len_4, len_5, len_6, len_7]
theorem bd_skip2 (gs L place : Nat) (hg : 0 < gs) : Bd gs L place (.tuple [.str "skip", .int 0, .int place]) := by
  intro k g
  rw [callN_at (f := ⟨4, 4, b_is_instruction⟩) rfl]
  simp [cLc, semF, runF, b_is_instruction, ix0, ix1, ix2, is_word_ok, in_push, in_reading, in_ring, in_skip, in_times, in_add, in_less, in_least, in_odd, ix_push, ix_reading, ix_ring, ix_skip, ix_times, ix_add, ix_less, ix_least, len_0, len_1, len_2, len_3, len_4, len_5, len_6, len_7, hg]
theorem bd_skip3 (gs L place : Nat) (hg : 0 < gs) (hp : place < L) : Bd gs L place (.tuple [.str "skip", .int 0, .int L]) := by
  intro k g
  rw [callN_at (f := ⟨4, 4, b_is_instruction⟩) rfl]
  simp [cLc, semF, runF, b_is_instruction, ix0, ix1, ix2, is_word_ok, in_push, in_reading, in_ring, in_skip, in_times, in_add, in_less, in_least, in_odd, ix_push, ix_reading, ix_ring, ix_skip, ix_times, ix_add, ix_less, ix_least, len_0, len_1, len_2, len_3, len_4, len_5, len_6, len_7, hg, hp]
theorem bd_skip4 (gs L place : Nat) (hg : 0 < gs) : Bd gs L place (.tuple [.str "skip", .int 0, .int (-1)]) := by
  intro k g
  rw [callN_at (f := ⟨4, 4, b_is_instruction⟩) rfl]
  have np : ¬ (place : Int) < -1 := by omega
  simp [cLc, semF, runF, b_is_instruction, ix0, ix1, ix2, is_word_ok, in_push, in_reading, in_ring, in_skip, in_times, in_add, in_less, in_least, in_odd, ix_push, ix_reading, ix_ring, ix_skip, ix_times, ix_add, ix_less, ix_least, len_0, len_1, len_2, len_3, len_4, len_5, len_6, len_7, hg, np]
theorem bd_skip5 (gs L place : Nat) (z : Int) : Bd gs L place (.tuple [.str "skip", .int (-1), .int z]) := by
  intro k g
  rw [callN_at (f := ⟨4, 4, b_is_instruction⟩) rfl]
  simp [cLc, semF, runF, b_is_instruction, ix0, ix1, ix2, is_word_ok, in_push, in_reading, in_ring, in_skip, in_times, in_add, in_less, in_least, in_odd, ix_push, ix_reading, ix_ring, ix_skip, ix_times, ix_add, ix_less, ix_least, len_0, len_1, len_2, len_3, len_4, len_5, len_6, len_7]
theorem bd_skip6 (gs L place : Nat)  : Bd gs L place (.tuple [.str "skip", .int 0]) := by
  intro k g
  rw [callN_at (f := ⟨4, 4, b_is_instruction⟩) rfl]
  simp [cLc, semF, runF, b_is_instruction, ix0, ix1, ix2, is_word_ok, in_push, in_reading, in_ring, in_skip, in_times, in_add, in_less, in_least, in_odd, ix_push, ix_reading, ix_ring, ix_skip, ix_times, ix_add, ix_less, ix_least, len_0, len_1, len_2, len_3, len_4, len_5, len_6, len_7]
end
end
end K74
namespace K74
noncomputable section
open PySem FD
section
variable {k : Nat} {g : G}
def insP (P : List Ins) (place : Nat) (x : Ins) : List Ins := (P.map (sh place)).take place ++ x :: (P.map (sh place)).drop place
theorem insD_enc (P : List Ins) (place : Nat) (x : Ins) : insD P place (enc x) = encP (insP P place x) := by
  unfold insD encP insP
  simp [List.map_take, List.map_drop, Function.comp_def]
theorem insP_len {P : List Ins} {place : Nat} (h : place ≤ P.length) (x : Ins) : (insP P place x).length = P.length + 1 := by
  unfold insP
  simp
  omega
theorem sh_va {gs L place i : Nat} {x : Ins} (v : Va gs L i x) (q : i < place ∨ True) : (i < place → Va gs (L + 1) i (sh place x)) ∧ (place ≤ i → Va gs (L + 1) (i + 1) (sh place x)) := by
  cases x with
  | skip j p =>
    obtain ⟨v1, v2, v3⟩ := v
    by_cases z : (place : Int) < p
    · rw [show sh place (.skip j p) = .skip j (p + 1) from if_pos z]
      exact ⟨fun _ => ⟨v1, by omega, by omega⟩, fun _ => ⟨v1, by omega, by omega⟩⟩
    · rw [show sh place (.skip j p) = .skip j p from if_neg z]
      exact ⟨fun _ => ⟨v1, by omega, by omega⟩, fun _ => ⟨v1, by omega, by omega⟩⟩
  | _ => exact ⟨fun _ => v, fun _ => v⟩
/-- the rows ahead of the place -/
theorem pre_va {gs : Nat} {P : List Ins} (hP : Pr gs P) {place i : Nat} (hi : i < place) {x : Ins} (h : (P.map (sh place))[i]? = some x) : Va gs (P.length + 1) i x := by
  rw [List.getElem?_map, Option.map_eq_some_iff] at h
  obtain ⟨z, h1, rfl⟩ := h
  exact (sh_va (hP.va i z h1) (.inr trivial)).1 hi
theorem pr_ins {gs : Nat} {P : List Ins} (hP : Pr gs P) (hl : P.length < 4000) {place : Nat} (hp : place < P.length) {x : Ins} (hx : Va gs (P.length + 1) place x) : Pr gs (insP P place x) := by
  have ln := insP_len (Nat.le_of_lt hp) x
  refine ⟨by omega, by omega, fun i y e => ?_, ?_⟩
  · rw [ln]
    unfold insP at e
    have tl : ((P.map (sh place)).take place).length = place := by simp; omega
    by_cases q : i < place
    · rw [List.getElem?_append_left (by omega), List.getElem?_take, if_pos q] at e
      exact pre_va hP q e
    · rw [List.getElem?_append_right (by omega), tl] at e
      cases z : i - place with
      | zero =>
        rw [z] at e
        cases e
        have : i = place := by omega
        subst this
        exact hx
      | succ n =>
        rw [z, List.getElem?_cons_succ, List.getElem?_drop, List.getElem?_map, Option.map_eq_some_iff] at e
        obtain ⟨w, h1, rfl⟩ := e
        have q2 := (sh_va (place := place) (hP.va (place + n) w h1) (.inr trivial)).2 (by omega)
        rw [show place + n + 1 = i by omega] at q2
        exact q2
  · rw [ln, Nat.add_sub_cancel]
    unfold insP
    have tl : ((P.map (sh place)).take place).length = place := by simp; omega
    rw [List.getElem?_append_right (by omega), tl]
    obtain ⟨n, hn⟩ : ∃ n, P.length - place = n + 1 := ⟨P.length - place - 1, by omega⟩
    rw [hn, List.getElem?_cons_succ, List.getElem?_drop, show place + n = P.length - 1 by omega, List.getElem?_map, hP.la]
    rfl
/-! ### the right ones -/
theorem rows_loop {P : List Ins} {place : Nat} (hp : place ≤ P.length) (hl : P.length ≤ 4000) {s0 s2 s4 s5 : Option SV} : ∀ (bs : List D) (acc : List D), acc.length + bs.length ≤ 10000 →
    compL (gNm 6) cYes (cD (cCall (callN 4100 tab (k + 1)) 6 (cACons (cVE 1) (cACons (cVE 3) (cACons (cVE 6) cANil))))) [6] bs acc [s0, some (.fz (encP P)), s2, some (.fz (.int place)), s4, s5, none] g
      = .ok (acc ++ bs.map (insD P place)) [s0, some (.fz (encP P)), s2, some (.fz (.int place)), s4, s5, none] g
  | [], acc, _ => by simp [compL]
  | b :: r, acc, ha => by
    rw [List.length_cons] at ha
    have l : acc.length < 16777216 := by omega
    have ih := rows_loop hp hl (s0 := s0) (s2 := s2) (s4 := s4) (s5 := s5) r (acc ++ [insD P place b]) (by rw [List.length_append]; simp only [List.length_cons, List.length_nil]; omega)
    simp only [List.append_assoc, List.cons_append, List.nil_append] at ih
    have e := inserted_ok (k := k) (g := g) hp hl b
    simp [compL, l, e, ih]
def rowsR (gs place many : Nat) : List Ins := [.push 2147483647, .push (-2147483648), .ring 999, .ring 0, .fin, .times, .least] ++ if 0 < gs then [.reading (gs - 1), .skip (gs - 1) many, .skip 0 (place + 1)] else []
theorem right_ok {gs c : Nat} {P : List Ins} (hP : Pr gs P) (hl : P.length < 4000) (h : Dk c g) (hc : c < 2 ^ 30) :
    ∃ (Ps : List (List Ins)) (g' : G), callN 4100 tab (k + 2) 7 [.deal, .fz (encP P), .fz (.int gs)] g = .ok (.ow (Ps.map encP)) g' ∧ (∀ Q ∈ Ps, Pr gs Q) ∧ Ps.length ≤ 10 ∧ Dk (c + 1) g' := by
  have lo := hP.lo
  obtain ⟨v, g1, e1, v1, v2, h1⟩ := tk (k := k) h (by omega) (m := (P.length : Int)) (by omega)
  obtain ⟨place, rfl⟩ : ∃ n : Nat, v = n := ⟨v.toNat, by omega⟩
  have hp : place < P.length := by omega
  have ln : pyLen (encP P) = some (.fz (.int P.length)) := by simp [encP]
  refine ⟨(rowsR gs place P.length).map (insP P place), g1, ?_, fun Q hQ => ?_, ?_, h1⟩
  · rw [callN_at (f := ⟨3, 7, b_law_right⟩) rfl]
    rw [List.map_map]
    have fe : (encP ∘ insP P place) = insD P place ∘ enc := by
      funext x
      exact (insD_enc P place x).symm
    rw [fe, ← List.map_map]
    by_cases q : 0 < gs
    · have rl := rows_loop (k := k) (g := g1) (Nat.le_of_lt hp) (Nat.le_of_lt hl) (s0 := some .deal) (s2 := some (.fz (.int gs))) (s4 := some (.fz (.int P.length))) (s5 := some (.fz (.list ((rowsR gs place P.length).map enc)))) ((rowsR gs place P.length).map enc) [] (by simp [rowsR, q])
      simp only [rowsR, if_pos q, List.cons_append, List.nil_append, List.map_cons, List.map_nil, enc] at rl ⊢
      have ad : ∀ xs ys : List D, xs.length + ys.length ≤ 16777216 → pyAdd (.list xs) (.list ys) = some (.ow (xs ++ ys)) := fun xs ys h => addL h
      simp [cLc, semF, runF, b_law_right, e1, ln, q, ad, rl]
    · have rl := rows_loop (k := k) (g := g1) (Nat.le_of_lt hp) (Nat.le_of_lt hl) (s0 := some .deal) (s2 := some (.fz (.int gs))) (s4 := some (.fz (.int P.length))) (s5 := some (.fz (.list ((rowsR gs place P.length).map enc)))) ((rowsR gs place P.length).map enc) [] (by simp [rowsR, q])
      simp only [rowsR, if_neg q, List.append_nil, List.nil_append, List.map_cons, List.map_nil, enc] at rl ⊢
      simp [cLc, semF, runF, b_law_right, e1, ln, q, rl]
  · rw [List.mem_map] at hQ
    obtain ⟨x, hx, rfl⟩ := hQ
    refine pr_ins hP hl hp ?_
    unfold rowsR at hx
    rw [List.mem_append] at hx
    rcases hx with hx | hx
    · simp only [List.mem_cons, List.not_mem_nil, or_false] at hx
      rcases hx with rfl | rfl | rfl | rfl | rfl | rfl | rfl
      · exact ⟨by decide, by decide⟩
      · exact ⟨by decide, by decide⟩
      · exact ⟨by decide, by decide⟩
      · exact ⟨by decide, by decide⟩
      · exact trivial
      · exact trivial
      · exact trivial
    · split at hx
      · simp only [List.mem_cons, List.not_mem_nil, or_false] at hx
        rcases hx with rfl | rfl | rfl
        · exact ⟨by omega, by omega⟩
        · exact ⟨⟨by omega, by omega⟩, by omega, by omega⟩
        · exact ⟨⟨by omega, by omega⟩, by omega, by omega⟩
      · exact absurd hx (by simp)
  · unfold rowsR
    split <;> simp
end
end
end K74
namespace K74
noncomputable section
open PySem FD
section
variable {k : Nat} {g : G}
def FalseP (gs : Nat) (b : D) : Prop := ∀ (k : Nat) (g : G), callN 4100 tab (k + 3) 10 [.fz b, .fz (.int gs)] g = .ok (.fz (.bool false)) g
theorem false_nil (gs : Nat) : FalseP gs (.tuple []) := by
  intro k g
  rw [callN_at (f := ⟨2, 4, b_is_program⟩) rfl]
  simp [cLc, semF, runF, b_is_program]
theorem false_long (gs : Nat) {xs : List D} (h : 4000 < xs.length) : FalseP gs (.tuple xs) := by
  intro k g
  rw [callN_at (f := ⟨2, 4, b_is_program⟩) rfl]
  have h1 : ¬ (xs.length : Int) ≤ 4000 := by omega
  by_cases q : (1 : Int) ≤ xs.length <;> simp [cLc, semF, runF, b_is_program, h1, q]
theorem false_last (gs : Nat) {xs : List D} {y : D} (hy : pyNe y (.tuple [.str "end"]) = some true) : FalseP gs (.tuple (xs ++ [y])) := by
  intro k g
  rw [callN_at (f := ⟨2, 4, b_is_program⟩) rfl]
  have e := ixU_m1 xs y
  have ln : (1 : Int) ≤ xs.length + 1 := by omega
  by_cases q : (xs.length : Int) + 1 ≤ 4000 <;> simp [cLc, semF, runF, b_is_program, e, hy, q, ln]
theorem bad_loop {gs L : Nat} {pd b : D} (hpd : pyLen pd = some (.fz (.int L))) (suf : List D) : ∀ (pre : List D) (n : Nat), (∀ i d, pre[i]? = some d → callN 4100 tab (k + 2) 9 [.fz d, .fz (.int ((n + i : Nat) : Int)), .fz (.int L), .fz (.int gs)] g = .ok (.fz (.bool true)) g) →
    Bd gs L (n + pre.length) b → ∃ σ, forL (gTp 2 (gC (gNm 2) (gC (gNm 3) gN))) (sIf (cNot (cTru (cD (cCall (callN 4100 tab (k + 2)) 9 (cACons (cVE 3) (cACons (cVE 2) (cACons (c1 pyLen (cVP 0)) (cACons (cVE 1) cANil))))))))
      (sRet (cK (.bool false)))
      sPass) (enumD n (pre ++ b :: suf)) [some (.fz pd), some (.fz (.int gs)), none, none] g = .ok (.rt (.fz (.bool false))) σ g
  | [], n, _, hb => by
    have e := hb k g
    simp only [List.length_nil, Nat.add_zero] at e
    refine ⟨[some (.fz pd), some (.fz (.int gs)), some (.fz (.int n)), some (.fz b)], ?_⟩
    simp [enumD, forL, hpd, e]
  | d :: r, n, h, hb => by
    have e := h 0 d rfl
    simp only [Nat.add_zero] at e
    obtain ⟨σ, ih⟩ := bad_loop hpd suf r (n + 1) (fun i d hd => by
      have := h (i + 1) d hd
      rw [show n + (i + 1) = n + 1 + i by omega] at this
      exact this) (by
      rw [List.length_cons, show n + (r.length + 1) = n + 1 + r.length by omega] at hb
      exact hb)
    refine ⟨σ, ?_⟩
    rw [← ih]
    simp [enumD, forL, hpd, e]
theorem false_ins {gs : Nat} {P : List Ins} (hP : Pr gs P) (hl : P.length < 4000) {place : Nat} (hp : place < P.length) {b : D} (hb : Bd gs (P.length + 1) place b) : FalseP gs (insD P place b) := by
  intro k g
  rw [callN_at (f := ⟨2, 4, b_is_program⟩) rfl]
  have tl : ((P.map fun x => enc (sh place x)).take place).length = place := by simp; omega
  have dl : ((P.map fun x => enc (sh place x)).drop place).length = P.length - place := by simp
  have L1 : (((P.map fun x => enc (sh place x)).take place) ++ (b :: (P.map fun x => enc (sh place x)).drop place)).length = P.length + 1 := by
    rw [List.length_append, List.length_cons, tl, dl]; omega
  have pl : pyLen (insD P place b) = some (.fz (.int ((P.length + 1 : Nat) : Int))) := by
    show some _ = _
    rw [show ([b] ++ (P.map fun x => enc (sh place x)).drop place) = (b :: (P.map fun x => enc (sh place x)).drop place) from rfl, L1]
  obtain ⟨σ, lp⟩ := bad_loop (k := k) (g := g) (gs := gs) (L := P.length + 1) (pd := insD P place b) pl ((P.map fun x => enc (sh place x)).drop place) ((P.map fun x => enc (sh place x)).take place) 0 (fun i d hd => by
    have hi : i < place := by
      cases Nat.lt_or_ge i place with
      | inl q => exact q
      | inr q => rw [List.getElem?_eq_none (by omega)] at hd; cases hd
    rw [List.getElem?_take, if_pos hi] at hd
    rw [List.getElem?_map, Option.map_eq_some_iff] at hd
    obtain ⟨z, h1, rfl⟩ := hd
    rw [Nat.zero_add]
    exact is_instruction_ok (pre_va hP hi (by rw [List.getElem?_map, h1]; rfl))) (by rw [tl, Nat.zero_add]; exact hb)
  have e : pyIx (insD P place b) (.int (-1)) = some (.fz (.tuple [.str "end"])) := by
    refine ixUn (m := 1) rfl (by decide) (by simp; omega) ?_
    rw [show ([b] ++ (P.map fun x => enc (sh place x)).drop place) = (b :: (P.map fun x => enc (sh place x)).drop place) from rfl, L1]
    rw [List.getElem?_append_right (by omega), tl]
    obtain ⟨n, hn⟩ : ∃ n, P.length - place = n + 1 := ⟨P.length - place - 1, by omega⟩
    rw [show P.length + 1 - 1 - place = n + 1 by omega, List.getElem?_cons_succ, List.getElem?_drop, show place + n = P.length - 1 by omega, List.getElem?_map, hP.la]
    rfl
  have ne : pyNe (.tuple [.str "end"]) (.tuple [.str "end"]) = some false := by simp [pyNe, eqOk]
  have h2 : ((P.length + 1 : Nat) : Int) ≤ 4000 := by omega
  have h3 : (1 : Int) ≤ ((P.length + 1 : Nat) : Int) := by omega
  have ls : lseqOf (insD P place b) = some (((P.map fun x => enc (sh place x)).take place) ++ (b :: (P.map fun x => enc (sh place x)).drop place)) := rfl
  generalize insD P place b = pd at *
  have en : ∀ σ g, iEnum (cD (cVE 0)) (some (.fz pd) :: σ) g = .ok (enumD 0 (((P.map fun x => enc (sh place x)).take place) ++ (b :: (P.map fun x => enc (sh place x)).drop place))) (some (.fz pd) :: σ) g := fun σ g => by
    show (Out.ok pd (some (.fz pd) :: σ) g).bind (fun a => liftO ((lseqOf a).map (enumD 0))) = _
    rw [Out.bind_ok, ls]
    rfl
  have nL : P.length + 1 = P.length + 1 := rfl
  revert pl h2 h3
  generalize P.length + 1 = L
  intro pl h2 h3
  simp [cLc, semF, runF, b_is_program, pl, e, ne, h2, h3, ls, lp, -iEnum, en]
end
end
end K74
namespace K74
noncomputable section
open PySem FD
section
variable {k : Nat} {g : G}
theorem mulU {xs : List D} {k : Int} {n : Nat} (hk : k = n) (h1 : xs ≠ []) (h2 : 2 ≤ n) (h3 : n ≤ 100000) (h4 : xs.length * n ≤ 16777216) : pyMul (.tuple xs) (.int k) = some (.fz (.tuple (reps xs n))) := by
  subst hk
  have q : Cl (xs ≠ [] ∧ (2 : Int) ≤ n ∧ (n : Int) ≤ 100000 ∧ xs.length * (n : Int).toNat ≤ 16777216) := ⟨h1, by omega, by omega, by rw [Int.toNat_natCast]; exact h4⟩
  unfold pyMul
  simp only
  rw [if_pos q, Int.toNat_natCast]
theorem rows_loop8 {P : List Ins} {place : Nat} (hp : place ≤ P.length) (hl : P.length ≤ 4000) {s0 s2 s4 s5 s6 s7 : Option SV} : ∀ (bs : List D) (acc : List D), acc.length + bs.length ≤ 10000 →
    compL (gNm 8) cYes (cD (cCall (callN 4100 tab (k + 1)) 6 (cACons (cVE 1) (cACons (cVE 3) (cACons (cVE 8) cANil))))) [8] bs acc [s0, some (.fz (encP P)), s2, some (.fz (.int place)), s4, s5, s6, s7, none] g
      = .ok (acc ++ bs.map (insD P place)) [s0, some (.fz (encP P)), s2, some (.fz (.int place)), s4, s5, s6, s7, none] g
  | [], acc, _ => by simp [compL]
  | b :: r, acc, ha => by
    rw [List.length_cons] at ha
    have l : acc.length < 16777216 := by omega
    have ih := rows_loop8 hp hl (s0 := s0) (s2 := s2) (s4 := s4) (s5 := s5) (s6 := s6) (s7 := s7) r (acc ++ [insD P place b]) (by rw [List.length_append]; simp only [List.length_cons, List.length_nil]; omega)
    simp only [List.append_assoc, List.cons_append, List.nil_append] at ih
    have e := inserted_ok (k := k) (g := g) hp hl b
    simp [compL, l, e, ih]
def rowsW (gs place many : Nat) : List D := [.tuple [.str "push", .int 2147483648], .tuple [.str "push", .int (-2147483649)], .tuple [.str "push"], .tuple [.str "push", .int 1, .int 1], .tuple [.str "reading", .int gs], .tuple [.str "reading", .int (-1)],
  .tuple [.str "ring", .int 1000], .tuple [.str "ring", .int (-1)], .tuple [.str "skip", .int gs, .int many], .tuple [.str "odd"], .tuple [.str "times", .int 1], .tuple [.str "add", .int 0], .tuple [.str "less", .int 2], .tuple [.str "least", .int 3]] ++
  if 0 < gs then [.tuple [.str "skip", .int 0, .int place], .tuple [.str "skip", .int 0, .int (many + 1)], .tuple [.str "skip", .int 0, .int (-1)], .tuple [.str "skip", .int (-1), .int many], .tuple [.str "skip", .int 0]] else []
theorem rowsW_bd {gs place many : Nat} (hp : place < many) {b : D} (hb : b ∈ rowsW gs place many) : Bd gs (many + 1) place b := by
  unfold rowsW at hb
  rw [List.mem_append] at hb
  rcases hb with hb | hb
  · simp only [List.mem_cons, List.not_mem_nil, or_false] at hb
    rcases hb with rfl | rfl | rfl | rfl | rfl | rfl | rfl | rfl | rfl | rfl | rfl | rfl | rfl | rfl
    · exact bd_push1 _ _ _
    · exact bd_push2 _ _ _
    · exact bd_push3 _ _ _
    · exact bd_push4 _ _ _
    · exact bd_read1 _ _ _
    · exact bd_read2 _ _ _
    · exact bd_ring1 _ _ _
    · exact bd_ring2 _ _ _
    · exact bd_skip1 _ _ _ _
    · exact bd_odd _ _ _
    · exact bd_times _ _ _
    · exact bd_add _ _ _
    · exact bd_less _ _ _
    · exact bd_least _ _ _
  · split at hb
    · rename_i q
      simp only [List.mem_cons, List.not_mem_nil, or_false] at hb
      rcases hb with rfl | rfl | rfl | rfl | rfl
      · exact bd_skip2 _ _ _ q
      · exact bd_skip3 _ _ _ q (by omega)
      · exact bd_skip4 _ _ _ q
      · exact bd_skip5 _ _ _ _
      · exact bd_skip6 _ _ _
    · exact absurd hb (by simp)
theorem reps_len (y : D) (n : Nat) : (reps [y] n).length = n := by simp [reps]
theorem wrong_ok {gs c : Nat} {P : List Ins} (hP : Pr gs P) (hl : P.length < 1000) (h : Dk c g) (hc : c < 2 ^ 30) :
    ∃ (bs : List D) (g' : G), callN 4100 tab (k + 2) 22 [.deal, .fz (encP P), .fz (.int gs)] g = .ok (.ow bs) g' ∧ (∀ b ∈ bs, FalseP gs b) ∧ Dk (c + 1) g' := by
  have lo := hP.lo
  obtain ⟨v, g1, e1, v1, v2, h1⟩ := tk (k := k) h (by omega) (m := (P.length : Int)) (by omega)
  obtain ⟨place, rfl⟩ : ∃ n : Nat, v = n := ⟨v.toNat, by omega⟩
  have hp : place < P.length := by omega
  have ln : pyLen (encP P) = some (.fz (.int P.length)) := by simp [encP]
  have pad : ∀ x, pyAdd (encP P) (.tuple [x]) = some (.fz (.tuple (P.map enc ++ [x]))) := fun x => addU (by simp; omega)
  have psl : pySlice (encP P) none (some (-1)) = some (.fz (.tuple ((P.map enc).take (P.length - 1)))) := by
    show some _ = _
    rw [cutNeg (i := -1) (m := 1) rfl (by decide), List.length_map]
  have pad2 : ∀ x, pyAdd (.tuple ((P.map enc).take (P.length - 1))) (.tuple [x]) = some (.fz (.tuple ((P.map enc).take (P.length - 1) ++ [x]))) := fun x => addU (by simp; omega)
  have ml : pyMul (.tuple [.tuple [.str "end"]]) (.int (4001 - (P.length : Int))) = some (.fz (.tuple (reps [.tuple [.str "end"]] (4001 - P.length)))) := by
    exact mulU (n := 4001 - P.length) (by omega) (by simp) (by omega) (by omega) (by simp only [List.length_cons, List.length_nil]; omega)
  have pad3 : pyAdd (.tuple (reps [.tuple [.str "end"]] (4001 - P.length))) (encP P) = some (.fz (.tuple (reps [.tuple [.str "end"]] (4001 - P.length) ++ P.map enc))) := addU (by rw [reps_len]; simp; omega)
  have adl : ∀ xs ys : List D, xs.length + ys.length ≤ 16777216 → pyAdd (.list xs) (.list ys) = some (.ow (xs ++ ys)) := fun xs ys h => addL h
  have t4 : ∀ xs : List D, 1 ≤ xs.length → True := fun _ _ => trivial
  have w3 : ∀ b, b ∈ ([.tuple [], .tuple (P.map enc ++ [.tuple [.str "push", .int 0]]), .tuple ((P.map enc).take (P.length - 1) ++ [.tuple [.str "end", .int 0]])] : List D) → FalseP gs b := fun b hb => by
    simp only [List.mem_cons, List.not_mem_nil, or_false] at hb
    rcases hb with rfl | rfl | rfl
    · exact false_nil gs
    · exact false_last gs (by simp [pyNe, eqOk])
    · exact false_last gs (by simp [pyNe, eqOk])
  have wl : FalseP gs (.tuple (reps [.tuple [.str "end"]] (4001 - P.length) ++ P.map enc)) := false_long gs (by rw [List.length_append, reps_len, List.length_map]; omega)
  refine ⟨[.tuple [], .tuple (P.map enc ++ [.tuple [.str "push", .int 0]]), .tuple ((P.map enc).take (P.length - 1) ++ [.tuple [.str "end", .int 0]])] ++ ((rowsW gs place P.length).map (insD P place) ++ [.tuple (reps [.tuple [.str "end"]] (4001 - P.length) ++ P.map enc)]), g1, ?_, fun b hb => ?_, h1⟩
  · rw [callN_at (f := ⟨3, 9, b_law_wrong⟩) rfl]
    by_cases q : 0 < gs
    · have rl := rows_loop8 (k := k) (g := g1) (Nat.le_of_lt hp) (by omega) (s0 := some .deal) (s2 := some (.fz (.int gs))) (s4 := some (.fz (.int P.length))) (s5 := some (.fz (.tuple [.str "end"])))
        (s6 := some (.ow ([.tuple [], .tuple (P.map enc ++ [.tuple [.str "push", .int 0]]), .tuple ((P.map enc).take (P.length - 1) ++ [.tuple [.str "end", .int 0]])]))) (s7 := some (.fz (.list (rowsW gs place P.length)))) (rowsW gs place P.length) [] (by simp [rowsW, q])
      simp only [rowsW, if_pos q, List.cons_append, List.nil_append, List.map_cons, List.map_nil] at rl ⊢
      simp [cLc, -List.map_take, semF, runF, b_law_wrong, e1, ln, q, pad, psl, pad2, adl, rl, ml, pad3]
    · have rl := rows_loop8 (k := k) (g := g1) (Nat.le_of_lt hp) (by omega) (s0 := some .deal) (s2 := some (.fz (.int gs))) (s4 := some (.fz (.int P.length))) (s5 := some (.fz (.tuple [.str "end"])))
        (s6 := some (.ow ([.tuple [], .tuple (P.map enc ++ [.tuple [.str "push", .int 0]]), .tuple ((P.map enc).take (P.length - 1) ++ [.tuple [.str "end", .int 0]])]))) (s7 := some (.fz (.list (rowsW gs place P.length)))) (rowsW gs place P.length) [] (by simp [rowsW, q])
      simp only [rowsW, if_neg q, List.append_nil, List.cons_append, List.nil_append, List.map_cons, List.map_nil] at rl ⊢
      simp [cLc, -List.map_take, semF, runF, b_law_wrong, e1, ln, q, pad, psl, pad2, adl, rl, ml, pad3]
  · rw [List.mem_append, List.mem_append] at hb
    rcases hb with hb | hb | hb
    · exact w3 b hb
    · rw [List.mem_map] at hb
      obtain ⟨z, hz, rfl⟩ := hb
      exact false_ins hP (by omega) hp (rowsW_bd hp hz)
    · rw [List.mem_singleton] at hb
      subst hb
      exact wl
end
end
end K74
namespace K74
noncomputable section
open PySem FD
section
variable {k : Nat} {g : G}
theorem hBool : tab[3]? = some ⟨2, 2, b_law_bool⟩ := tab_lib rfl
theorem bl (k : Nat) (g : G) (a b : Bool) : callN 4100 tab (k + 1) 3 [.fz (.bool a), .fz (.bool b)] g = .ok (.fz (.bool (a == b))) g := bool_ok hBool a b
/-- all of them are programs, their runs are told alike -/
theorem loop1 {gs : Nat} (hg : gs < 100) {s0 s3 s4 : SV} : ∀ (Qs : List (List Ins)) (g : G) (c : Nat), (∀ Q ∈ Qs, Pr gs Q) → Dk c g → c + 2 * gs * Qs.length < 2 ^ 30 →
    ∃ g', forL (gNm 5) (sIf (cOr (cNot (cTru (cD (cCall (callN 4100 tab (k + 9)) 3 (cACons (cCall (callN 4100 tab (k + 9)) 10 (cACons (cVE 5) (cACons (cVE 2) cANil))) (cACons (cK (.bool true)) cANil)))))) (cNot (cTru (cD (cCall (callN 4100 tab (k + 9)) 20 (cACons (cVE 5) (cACons (cCall (callN 4100 tab (k + 9)) 21 (cACons (cVE 1) (cACons (cVE 2) cANil))) cANil)))))))
      (sRet (cK (.bool false)))
      sPass) (Qs.map encP) [some s0, some .deal, some (.fz (.int gs)), some s3, some s4, none, none, none, none, none, none] g
      = .ok .nx [some s0, some .deal, some (.fz (.int gs)), some s3, some s4, none, none, none, none, none, none] g' ∧ Dk (c + 2 * gs * Qs.length) g'
  | [], g, c, _, h, _ => ⟨g, rfl, h⟩
  | Q :: r, g, c, hQ, h, hc => by
    rw [List.length_cons] at hc ⊢
    have hq := hQ Q List.mem_cons_self
    rw [Nat.mul_succ] at hc ⊢
    obtain ⟨tv, g1, e1, l1, d1⟩ := turn_ok (k := k + 7) (by omega) h (gs := gs) (by omega)
    obtain ⟨g2, e2, d2⟩ := loop1 (s0 := s0) (s3 := s3) (s4 := s4) hg r g1 (c + 2 * gs) (fun Q hQ' => hQ Q (List.mem_cons_of_mem _ hQ')) d1 (by omega)
    refine ⟨g2, ?_, d2.mono (by omega)⟩
    have p : callN 4100 tab (k + 9) 10 [.fz (encP Q), .fz (.int gs)] g = _ := is_program_ok (k := k + 6) hq
    have b : callN 4100 tab (k + 9) 3 [.fz (.bool true), .fz (.bool true)] g = _ := bl (k + 8) g true true
    have t : callN 4100 tab (k + 9) 20 [.fz (encP Q), .fz (tuD tv)] g1 = _ := run_told_ok (k := k + 3) l1 hq
    have e1 : callN 4100 tab (k + 9) 21 [.deal, .fz (.int gs)] g = _ := e1
    rw [List.map_cons]
    simp [forL, p, b, t, e1, e2]
theorem loop2 {gs : Nat} (hg : gs < 100) {P : List Ins} (hP : Pr gs P) {s0 s3 : SV} : ∀ (xs : List D) (g : G) (c : Nat), Dk c g → c + 2 * gs * xs.length < 2 ^ 30 →
    ∃ g', forL (gNm 6) (sIf (cNot (cTru (cD (cCall (callN 4100 tab (k + 9)) 20 (cACons (cVE 4) (cACons (cCall (callN 4100 tab (k + 9)) 21 (cACons (cVE 1) (cACons (cVE 2) cANil))) cANil))))))
      (sRet (cK (.bool false)))
      sPass) xs [some s0, some .deal, some (.fz (.int gs)), some s3, some (.fz (encP P)), none, none, none, none, none, none] g
      = .ok .nx [some s0, some .deal, some (.fz (.int gs)), some s3, some (.fz (encP P)), none, none, none, none, none, none] g' ∧ Dk (c + 2 * gs * xs.length) g'
  | [], g, c, h, _ => ⟨g, rfl, h⟩
  | x :: r, g, c, h, hc => by
    rw [List.length_cons] at hc ⊢
    rw [Nat.mul_succ] at hc ⊢
    obtain ⟨tv, g1, e1, l1, d1⟩ := turn_ok (k := k + 7) (by omega) h (gs := gs) (by omega)
    obtain ⟨g2, e2, d2⟩ := loop2 (s0 := s0) (s3 := s3) hg hP r g1 (c + 2 * gs) d1 (by omega)
    refine ⟨g2, ?_, d2.mono (by omega)⟩
    have t : callN 4100 tab (k + 9) 20 [.fz (encP P), .fz (tuD tv)] g1 = _ := run_told_ok (k := k + 3) l1 hP
    have e1 : callN 4100 tab (k + 9) 21 [.deal, .fz (.int gs)] g = _ := e1
    simp [forL, t, e1, e2]
theorem loop3 {gs : Nat} {s0 s3 s4 : SV} : ∀ (bs : List D), (∀ b ∈ bs, FalseP gs b) →
    compL (gNm 5) (cNot (cTru (cD (cCall (callN 4100 tab (k + 9)) 3 (cACons (cCall (callN 4100 tab (k + 9)) 10 (cACons (cVE 5) (cACons (cVE 2) cANil))) (cACons (cK (.bool false)) cANil)))))) (cD (cK (.int 1))) [5] bs [] [some s0, some .deal, some (.fz (.int gs)), some s3, some s4, none, none, none, none, none, none] g
      = .ok [] [some s0, some .deal, some (.fz (.int gs)), some s3, some s4, none, none, none, none, none, none] g
  | [], _ => by simp [compL]
  | b :: r, h => by
    have ih := loop3 (s0 := s0) (s3 := s3) (s4 := s4) r fun b hb => h b (List.mem_cons_of_mem _ hb)
    have p : callN 4100 tab (k + 9) 10 [.fz b, .fz (.int gs)] g = _ := h b List.mem_cons_self (k + 6) g
    have bb : callN 4100 tab (k + 9) 3 [.fz (.bool false), .fz (.bool false)] g = _ := bl (k + 8) g false false
    simp [compL, p, bb, ih]
/-- deep: pushes, then what ends them -/
def deepP (m : Nat) : List Ins := ((List.range m).map fun (j : Nat) => Ins.push j) ++ [.add, .push 1] ++ [.fin]
theorem deep_pr (gs m : Nat) (hm : m < 100) : Pr gs (deepP m) := by
  have ln : (((List.range m).map fun (j : Nat) => Ins.push j) ++ [Ins.add, Ins.push 1]).length = m + 2 := by simp
  refine pr_mk (by rw [ln]; omega) fun i x e => ?_
  by_cases q : i < m
  · rw [List.getElem?_append_left (by simpa using q), List.getElem?_map, Option.map_eq_some_iff] at e
    obtain ⟨j, h1, rfl⟩ := e
    have := range_get h1
    exact ⟨by omega, by omega⟩
  · rw [List.getElem?_append_right (by simpa using q)] at e
    have h2 : x = .add ∨ x = .push 1 := by
      have := List.mem_of_getElem? e
      simpa using this
    rcases h2 with rfl | rfl
    · exact trivial
    · exact ⟨by decide, by decide⟩
theorem push_loop {s0 s2 s3 s4 s7 : SV} : ∀ (js : List Nat) (acc : List D), acc.length + js.length ≤ 10000 →
    compL (gNm 10) cYes (cD (cTup (cCons (cD (cK (.str "push"))) (cCons (cD (cVE 10)) cNil)))) [10] (js.map fun (j : Nat) => PyData.int j) acc [some s0, some .deal, some s2, some s3, some s4, none, none, some s7, none, none, none] g
      = .ok (acc ++ js.map fun (j : Nat) => enc (.push j)) [some s0, some .deal, some s2, some s3, some s4, none, none, some s7, none, none, none] g
  | [], acc, _ => by simp [compL]
  | j :: r, acc, ha => by
    rw [List.length_cons] at ha
    have l : acc.length < 16777216 := by omega
    have ih := push_loop (s0 := s0) (s2 := s2) (s3 := s3) (s4 := s4) (s7 := s7) r (acc ++ [enc (.push j)]) (by rw [List.length_append]; simp only [List.length_cons, List.length_nil]; omega)
    simp only [List.append_assoc, List.cons_append, List.nil_append, enc] at ih
    simp [compL, l, enc, ih]
theorem loop4 {gs : Nat} (hg : gs < 100) {s0 s3 s4 : SV} : ∀ (ms : List Nat) (g : G) (c : Nat), (∀ m ∈ ms, m < 100) → Dk c g → c + 2 * gs * ms.length < 2 ^ 30 →
    ∃ g', forL (gNm 7) (sSeq (sAsgN 8 (c1 pyTuple (cD (c2 pyAdd (cD (cLc (iR1 (cVP 7)) [10] (gNm 10) cYes (cD (cTup (cCons (cD (cK (.str "push"))) (cCons (cD (cVE 10)) cNil)))))) (cD (cLst (cCons (cD (cTup (cCons (cD (cK (.str "add"))) cNil))) (cCons (cD (cTup (cCons (cD (cK (.str "push"))) (cCons (cD (cK (.int 1))) cNil)))) (cCons (cD (cTup (cCons (cD (cK (.str "end"))) cNil))) cNil)))))))))
    (sIf (cOr (cNot (cTru (cD (cCall (callN 4100 tab (k + 9)) 3 (cACons (cCall (callN 4100 tab (k + 9)) 10 (cACons (cVE 8) (cACons (cVE 2) cANil))) (cACons (cK (.bool true)) cANil)))))) (cNot (cTru (cD (cCall (callN 4100 tab (k + 9)) 20 (cACons (cVE 8) (cACons (cCall (callN 4100 tab (k + 9)) 21 (cACons (cVE 1) (cACons (cVE 2) cANil))) cANil)))))))
      (sRet (cK (.bool false)))
      sPass)) (ms.map fun (j : Nat) => PyData.int j) [some s0, some .deal, some (.fz (.int gs)), some s3, some s4, none, none, none, none, none, none] g
      = .ok .nx [some s0, some .deal, some (.fz (.int gs)), some s3, some s4, none, none, none, none, none, none] g' ∧ Dk (c + 2 * gs * ms.length) g'
  | [], g, c, _, h, _ => ⟨g, rfl, h⟩
  | m :: r, g, c, hm, h, hc => by
    rw [List.length_cons] at hc ⊢
    rw [Nat.mul_succ] at hc ⊢
    have m1 := hm m List.mem_cons_self
    have hP := deep_pr gs m m1
    obtain ⟨tv, g1, e1, l1, d1⟩ := turn_ok (k := k + 7) (by omega) h (gs := gs) (by omega)
    obtain ⟨g2, e2, d2⟩ := loop4 (s0 := s0) (s3 := s3) (s4 := s4) hg r g1 (c + 2 * gs) (fun m hm' => hm m (List.mem_cons_of_mem _ hm')) d1 (by omega)
    refine ⟨g2, ?_, d2.mono (by omega)⟩
    have p : callN 4100 tab (k + 9) 10 [.fz (encP (deepP m)), .fz (.int gs)] g = _ := is_program_ok (k := k + 6) hP
    have b : callN 4100 tab (k + 9) 3 [.fz (.bool true), .fz (.bool true)] g = _ := bl (k + 8) g true true
    have t : callN 4100 tab (k + 9) 20 [.fz (encP (deepP m)), .fz (tuD tv)] g1 = _ := run_told_ok (k := k + 3) l1 hP
    have e1 : callN 4100 tab (k + 9) 21 [.deal, .fz (.int gs)] g = _ := e1
    have pl := push_loop (g := g) (s0 := s0) (s2 := .fz (.int gs)) (s3 := s3) (s4 := s4) (s7 := .fz (.int m)) (List.range m) [] (by rw [List.length_range]; simp only [List.length_nil]; omega)
    rw [← rngD_nat] at pl
    simp only [List.nil_append] at pl
    have r1 := rng1N (n := m) (by omega)
    have ad : ∀ xs ys : List D, xs.length + ys.length ≤ 16777216 → pyAdd (.list xs) (.list ys) = some (.ow (xs ++ ys)) := fun xs ys h => addL h
    have ad1 := ad ((List.range m).map fun (j : Nat) => enc (.push j)) [.tuple [.str "add"], .tuple [.str "push", .int 1], .tuple [.str "end"]] (by simp; omega)
    have ed : PyData.tuple (((List.range m).map fun (j : Nat) => enc (.push j)) ++ [.tuple [.str "add"], .tuple [.str "push", .int 1], .tuple [.str "end"]]) = encP (deepP m) := by
      simp [encP, deepP, enc, Function.comp_def]
    have cl : cLc (iR1 (cVP 7)) [10] (gNm 10) cYes (cD (cTup (cCons (cD (cK (.str "push"))) (cCons (cD (cVE 10)) cNil)))) [some s0, some .deal, some (.fz (.int gs)), some s3, some s4, none, none, some (.fz (.int m)), none, none, none] g = .ok (.ow ((List.range m).map fun (j : Nat) => enc (.push j))) [some s0, some .deal, some (.fz (.int gs)), some s3, some s4, none, none, some (.fz (.int m)), none, none, none] g := by
      simp [cLc, r1, pl]
    rw [List.map_cons]
    simp [forL, cl, ad1, ed, p, b, t, e1, e2]
theorem loop6 {s0 s2 s3 s4 s9 : SV} : ∀ (ns : List Int),
    forL (gNm 5) (sIf (cNot (cTru (cD (cCall (callN 4100 tab (k + 9)) 3 (cACons (cCall (callN 4100 tab (k + 9)) 8 (cACons (cVE 5) cANil)) (cACons (cCall (callN 4100 tab (k + 9)) 12 (cACons (cVE 5) cANil)) cANil))))))
      (sRet (cK (.bool false)))
      sPass) (ns.map .int) [some s0, some .deal, some s2, some s3, some s4, none, none, none, none, some s9, none] g
      = .ok .nx [some s0, some .deal, some s2, some s3, some s4, none, none, none, none, some s9, none] g
  | [] => rfl
  | n :: r => by
    have ih := loop6 (s0 := s0) (s2 := s2) (s3 := s3) (s4 := s4) (s9 := s9) r
    have a : callN 4100 tab (k + 9) 8 [.fz (.int n)] g = _ := is_word_ok (k := k + 8) n
    have a2 : callN 4100 tab (k + 9) 12 [.fz (.int n)] g = _ := law_is_word_ok (k := k + 8) n
    have b : ∀ x, callN 4100 tab (k + 9) 3 [.fz (.bool x), .fz (.bool x)] g = _ := fun x => bl (k + 8) g x x
    rw [List.map_cons]
    simp [forL, a, a2, b, ih]
theorem end_prog (gs : Nat) : Pr gs (List.replicate 4000 Ins.fin) := by
  refine ⟨by simp, by simp, fun i x e => ?_, by simp⟩
  have := List.eq_of_mem_replicate (List.mem_of_getElem? e)
  subst this
  exact trivial
theorem end_encP : PyData.tuple (reps [.tuple [.str "end"]] 4000) = encP (List.replicate 4000 Ins.fin) := by
  have q : ∀ n : Nat, (List.replicate n ([.tuple [.str "end"]] : List D)).flatten = (List.replicate n Ins.fin).map enc := fun n => by
    induction n with
    | zero => rfl
    | succ n ih => rw [List.replicate_succ, List.replicate_succ, List.flatten_cons, ih]; rfl
  unfold encP reps
  rw [q]
theorem law_true (ns : List Int) (h : ns.length ≤ 63) : ∃ g, callN 4100 tab (49 + 1) 23 [.fz (.list (ns.map .int))] ⟨.none, .none, 0⟩ = .ok (.fz (.bool true)) g := by
  show ∃ g, callN 4100 tab (40 + 9 + 1) 23 [.fz (.list (ns.map .int))] ⟨.none, .none, 0⟩ = .ok (.fz (.bool true)) g
  generalize 40 = k
  rw [callN_at (f := ⟨1, 11, b_law⟩) rfl]
  obtain ⟨dr, dt, e0, d0⟩ := deal_ok (w := 4100) (k := k + 8) (g := ⟨.none, .none, 0⟩) (T := tab) (i := 0) (tab_lib rfl) h
  have e0 : callN 4100 tab (k + 9) 0 [.fz (.list (ns.map .int))] ⟨.none, .none, 0⟩ = .ok (.nd dr 0 dt) ⟨.none, .none, 0⟩ := e0
  have sm : callN 4100 tab (k + 9) 2 [.fz (.tuple [.int (-2147483648), .int 2147483647, .int 8, .int 4000, .int 1000]), .fz (.tuple [.int (-2147483648), .int 2147483647, .int 8, .int 4000, .int 1000])] ⟨dr, dt, 0⟩ = .ok (.fz (.bool true)) ⟨dr, dt, 0⟩ :=
    same_refl (tab_lib rfl) 1 (.tuple [.int (-2147483648), .int 2147483647, .int 8, .int 4000, .int 1000]) ⟨by simp, fun d hd => by
      simp only [List.mem_cons, List.not_mem_nil, or_false] at hd
      rcases hd with rfl | rfl | rfl | rfl | rfl <;> exact trivial⟩ (k + 8) (by omega)
  obtain ⟨gv, g1, e1, a1, b1, d1⟩ := tk (k := k + 8) d0 (by decide) (m := 5) (by decide)
  obtain ⟨gs, rfl⟩ : ∃ n : Nat, gv = n := ⟨gv.toNat, by omega⟩
  have e1 : callN 4100 tab (k + 9) 1 [.deal, .fz (.int 5)] ⟨dr, dt, 0⟩ = _ := e1
  obtain ⟨t4, g2, e2, a2, b2, d2⟩ := tk (k := k + 8) d1 (by decide) (m := 4) (by decide)
  have e2 : callN 4100 tab (k + 9) 1 [.deal, .fz (.int 4)] g1 = _ := e2
  -- the size
  obtain ⟨size, g3, e3, s3, d3⟩ : ∃ (size : Nat) (g3 : G), cIte (cCmp pyGt (cD (cCall (callN 4100 tab (k + 9)) 1 (cACons (cVE 1) (cACons (cK (.int 4)) cANil)))) (cD (cK (.int 0)))) (cCall (callN 4100 tab (k + 9)) 1 (cACons (cVE 1) (cACons (cK (.int 14)) cANil))) (cCall (callN 4100 tab (k + 9)) 1 (cACons (cVE 1) (cACons (cK (.int 50)) cANil)))
      [some (.fz (.list (ns.map .int))), some .deal, some (.fz (.int gs)), none, none, none, none, none, none, none, none] g1 = .ok (.fz (.int size)) [some (.fz (.list (ns.map .int))), some .deal, some (.fz (.int gs)), none, none, none, none, none, none, none, none] g3 ∧ size < 50 ∧ Dk 3 g3 := by
    by_cases q : 0 < t4
    · obtain ⟨v, g3, e3, a3, b3, d3⟩ := tk (k := k + 8) d2 (by decide) (m := 14) (by decide)
      have e3 : callN 4100 tab (k + 9) 1 [.deal, .fz (.int 14)] g2 = _ := e3
      obtain ⟨v, rfl⟩ : ∃ n : Nat, v = n := ⟨v.toNat, by omega⟩
      exact ⟨v, g3, by simp [e2, q, e3], by omega, d3⟩
    · obtain ⟨v, g3, e3, a3, b3, d3⟩ := tk (k := k + 8) d2 (by decide) (m := 50) (by decide)
      have e3 : callN 4100 tab (k + 9) 1 [.deal, .fz (.int 50)] g2 = _ := e3
      obtain ⟨v, rfl⟩ : ∃ n : Nat, v = n := ⟨v.toNat, by omega⟩
      exact ⟨v, g3, by simp [e2, q, e3], by omega, d3⟩
  obtain ⟨P, g4, e4, hP, lP, d4⟩ := program_ok (k := k + 6) (gs := gs) (size := size) (by omega) d3 (by omega)
  have e4 : callN 4100 tab (k + 9) 5 [.deal, .fz (.int size), .fz (.int gs)] g3 = _ := e4
  obtain ⟨Ps, g5, e5, hPs, lPs, d5⟩ := right_ok (k := k + 7) hP (by omega) d4 (by omega)
  have e5 : callN 4100 tab (k + 9) 7 [.deal, .fz (encP P), .fz (.int gs)] g4 = _ := e5
  have hg : gs < 100 := by omega
  have mu : ∀ n : Nat, n ≤ 20 → 2 * gs * n ≤ 200 := fun n hn => Nat.le_trans (Nat.mul_le_mul (show 2 * gs ≤ 10 by omega) hn) (by decide)
  obtain ⟨g6, e6, d6⟩ := loop1 (k := k) (s0 := .fz (.list (ns.map .int))) (s3 := .fz (.int size)) (s4 := .fz (encP P)) hg (P :: Ps) g5 _ (fun Q hQ => by
    rcases List.mem_cons.mp hQ with rfl | hQ
    · exact hP
    · exact hPs Q hQ) d5 (by have := mu (P :: Ps).length (by rw [List.length_cons]; omega); omega)
  obtain ⟨g7, e7, d7⟩ := loop2 (k := k) (s0 := .fz (.list (ns.map .int))) (s3 := .fz (.int size)) hg hP (rngD 0 3) g6 _ d6 (by
    have := mu (P :: Ps).length (by rw [List.length_cons]; omega)
    have := mu (rngD 0 3).length (by rw [show (rngD 0 3).length = 3 from rfl]; omega)
    omega)
  obtain ⟨bs, g8, e8, hbs, d8⟩ := wrong_ok (k := k + 7) (gs := gs) hP (by omega) d7 (by
    have := mu (P :: Ps).length (by rw [List.length_cons]; omega)
    have := mu (rngD 0 3).length (by rw [show (rngD 0 3).length = 3 from rfl]; omega)
    omega)
  have e8 : callN 4100 tab (k + 9) 22 [.deal, .fz (encP P), .fz (.int gs)] g7 = _ := e8
  have e9 := loop3 (k := k) (g := g8) (s0 := .fz (.list (ns.map .int))) (s3 := .fz (.int size)) (s4 := .fz (encP P)) bs hbs
  obtain ⟨g10, e10, d10⟩ := loop4 (k := k) (s0 := .fz (.list (ns.map .int))) (s3 := .fz (.int size)) (s4 := .fz (encP P)) hg [7, 8, 9] g8 _ (fun m hm => by
    simp only [List.mem_cons, List.not_mem_nil, or_false] at hm
    omega) d8 (by
    have := mu (P :: Ps).length (by rw [List.length_cons]; omega)
    have := mu (rngD 0 3).length (by rw [show (rngD 0 3).length = 3 from rfl]; omega)
    have := mu ([7, 8, 9] : List Nat).length (by decide)
    omega)
  obtain ⟨n, g11, e11, a11, b11, d11⟩ := tk (k := k + 8) d10 (by
    have := mu (P :: Ps).length (by rw [List.length_cons]; omega)
    have := mu (rngD 0 3).length (by rw [show (rngD 0 3).length = 3 from rfl]; omega)
    have := mu ([7, 8, 9] : List Nat).length (by decide)
    omega) (m := 1000) (by decide)
  have e11 : callN 4100 tab (k + 9) 1 [.deal, .fz (.int 1000)] g10 = _ := e11
  have e12 := loop6 (k := k) (g := g11) (s0 := .fz (.list (ns.map .int))) (s2 := .fz (.int gs)) (s3 := .fz (.int size)) (s4 := .fz (encP P)) (s9 := .fz (.int (n * 4294967))) [n * 4294967, -(n * 4294967), 2147483647, 2147483648, -2147483648, -2147483649]
  have e13 : callN 4100 tab (k + 9) 10 [.fz (encP (List.replicate 4000 Ins.fin)), .fz (.int gs)] g11 = _ := is_program_ok (k := k + 6) (end_prog gs)
  have e14 : callN 4100 tab (k + 9) 3 [.fz (.bool true), .fz (.bool true)] g11 = _ := bl (k + 8) g11 true true
  have m1 := mulI (i := n) (j := 4294967) (by omega) (by omega)
  have m2 : pyMul (.tuple [.tuple [.str "end"]]) (.int 4000) = some (.fz (encP (List.replicate 4000 Ins.fin))) := by
    rw [← end_encP]
    exact mulU (n := 4000) rfl (by simp) (by decide) (by decide) (by simp)
  have ad : pyAdd (.list [encP P]) (.list (Ps.map encP)) = some (.ow ([encP P] ++ Ps.map encP)) := addL (by simp; omega)
  have r3 : rng1 (.int 3) = some (rngD 0 3) := rng1N (n := 3) (by decide)
  have x7 : cLc (iSeq (cD (cCall (callN 4100 tab (k + 9)) 22 (cACons (cVE 1) (cACons (cVE 4) (cACons (cVE 2) cANil)))))) [5] (gNm 5) (cNot (cTru (cD (cCall (callN 4100 tab (k + 9)) 3 (cACons (cCall (callN 4100 tab (k + 9)) 10 (cACons (cVE 5) (cACons (cVE 2) cANil))) (cACons (cK (.bool false)) cANil)))))) (cD (cK (.int 1)))
      [some (.fz (.list (ns.map .int))), some .deal, some (.fz (.int gs)), some (.fz (.int size)), some (.fz (encP P)), none, none, none, none, none, none] g7 = .ok (.ow []) [some (.fz (.list (ns.map .int))), some .deal, some (.fz (.int gs)), some (.fz (.int size)), some (.fz (encP P)), none, none, none, none, none, none] g8 := by
    simp [cLc, e8, e9]
  rw [show (([7, 8, 9] : List Nat).map fun (j : Nat) => PyData.int j) = [.int 7, .int 8, .int 9] from rfl] at e10
  simp only [List.map_cons, List.map_nil] at e6 e12
  generalize encP (List.replicate 4000 Ins.fin) = E at e13 m2
  refine ⟨g11, ?_⟩
  simp [-cIte, semF, runF, b_law, e0, sm, e1, e3, e4, e5, ad, e6, r3, e7, x7, e10, e11, m1, e12, m2, e13, e14]
end
end
end K74
set_option Elab.async false
set_option maxRecDepth 100000
open PySem PySem.W PyProof.Rows
set_option maxHeartbeats 0 in
theorem PySem.Challenge.cw_standsfast_k74_whole_machines_run_as_tol_holds : PySem.Challenge.rw_standsfast_k74_whole_machines_run_as_tol.Holds := by
  w_on; o_law; k_head; (case hw => w_witness2)
  k_fill
  refine L2.walk_of (l := PySem.Challenge.rw_standsfast_k74_whole_machines_run_as_tol) (n := 63) (k := 49 + 1) (x := "script") (CX := fun _ => L2.CX0) (sp := fun w => FD.spF _ FD.XC0 true 1 (FD.callN 4100 K74.tab (49 + 1) 23)) rfl (by decide) rfl ⟨rfl, by decide, by decide⟩ (fun w h Y => PySem.W.kIn_of Y) ?F (fun w H a ns hl _ hS => FD.sp_law (FD.noList_ok rfl) hS ⟨.none, .none, 0⟩ (K74.law_true ns hl)) (fun _ _ _ _ _ h => h)
  case F =>
    intro w mg fa h KX G hmg
    refine' K74.all_mk KX G hmg ?a1 ?l1 ?c1 ?k1 ?a2 ?l2 ?c2 ?k2 ?a3 ?l3 ?c3 ?k3 ?a4 ?l4 ?c4 ?k4 ?a5 ?l5 ?c5 ?k5 ?a6 ?l6 ?c6 ?k6 ?a7 ?l7 ?c7 ?k7 ?a8 ?l8 ?c8 ?k8 ?a9 ?l9 ?c9 ?k9 ?a10 ?l10 ?c10 ?k10 ?a11 ?l11 ?c11 ?k11 ?a12 ?l12 ?c12 ?k12 ?a13 ?l13 ?c13 ?k13 ?a14 ?l14 ?c14 ?k14 ?a15 ?l15 ?c15 ?k15 ?a16 ?l16 ?c16 ?k16 ?a17 ?l17 ?c17 ?k17 ?a18 ?l18 ?c18 ?k18 ?a19 ?l19 ?c19 ?k19 ?a20 ?l20 ?c20 ?k20 ?a21 ?l21 ?c21 ?k21 ?a22 ?l22 ?c22 ?k22 ?a23 ?l23 ?c23 ?k23 ?a24 ?l24 ?c24 ?k24 ?q1 ?r1 ?q2 ?r2 ?q3 ?r3 ?q4 ?r4 ?q5 ?r5 ?q6 ?r6 ?q7 ?r7 ?q8 ?r8 ?q9 ?r9 ?q10 ?r10 ?q11 ?r11 ?q12 ?r12 ?q13 ?r13 ?q14 ?r14 ?q15 ?r15 ?q16 ?r16 ?q17 ?r17 ?q18 ?r18 ?q19 ?r19 ?z1 ?z2 ?z3 ?z4 ?z5 ?z6 ?z7 ?z8 ?z9 ?z10 ?z11 ?z12 ?z13 ?z14 ?z15
    (case a1 => k_is); (case l1 => k_is); (case c1 => k_is); (case k1 => k_is); (case a2 => k_is); (case l2 => k_is); (case c2 => k_is); (case k2 => k_is); (case a3 => k_is); (case l3 => k_is); (case c3 => k_is); (case k3 => k_is); (case a4 => k_is); (case l4 => k_is); (case c4 => k_is); (case k4 => k_is); (case a5 => k_is); (case l5 => k_is); (case c5 => k_is); (case k5 => k_is); (case a6 => k_is); (case l6 => k_is); (case c6 => k_is); (case k6 => k_is); (case a7 => k_is); (case l7 => k_is); (case c7 => k_is); (case k7 => k_is); (case a8 => k_is); (case l8 => k_is); (case c8 => k_is); (case k8 => k_is); (case a9 => k_is); (case l9 => k_is); (case c9 => k_is); (case k9 => k_is); (case a10 => k_is); (case l10 => k_is); (case c10 => k_is); (case k10 => k_is); (case a11 => k_is); (case l11 => k_is); (case c11 => k_is); (case k11 => k_is); (case a12 => k_is); (case l12 => k_is); (case c12 => k_is); (case k12 => k_is); (case a13 => k_is); (case l13 => k_is); (case c13 => k_is); (case k13 => k_is); (case a14 => k_is); (case l14 => k_is); (case c14 => k_is); (case k14 => k_is); (case a15 => k_is); (case l15 => k_is); (case c15 => k_is); (case k15 => k_is); (case a16 => k_is); (case l16 => k_is); (case c16 => k_is); (case k16 => k_is); (case a17 => k_is); (case l17 => k_is); (case c17 => k_is); (case k17 => k_is); (case a18 => k_is); (case l18 => k_is); (case c18 => k_is); (case k18 => k_is); (case a19 => k_is); (case l19 => k_is); (case c19 => k_is); (case k19 => k_is); (case a20 => k_is); (case l20 => k_is); (case c20 => k_is); (case k20 => k_is); (case a21 => k_is); (case l21 => k_is); (case c21 => k_is); (case k21 => k_is); (case a22 => k_is); (case l22 => k_is); (case c22 => k_is); (case k22 => k_is); (case a23 => k_is); (case l23 => k_is); (case c23 => k_is); (case k23 => k_is); (case a24 => k_is); (case l24 => k_is); (case c24 => k_is); (case k24 => k_is); (case q1 => k_is); (case r1 => rfl); (case q2 => k_is); (case r2 => rfl); (case q3 => k_is); (case r3 => rfl); (case q4 => k_is); (case r4 => rfl); (case q5 => k_is); (case r5 => rfl); (case q6 => k_is); (case r6 => rfl); (case q7 => k_is); (case r7 => rfl); (case q8 => k_is); (case r8 => rfl); (case q9 => k_is); (case r9 => rfl); (case q10 => k_is); (case r10 => rfl); (case q11 => k_is); (case r11 => rfl); (case q12 => k_is); (case r12 => rfl); (case q13 => k_is); (case r13 => rfl); (case q14 => k_is); (case r14 => rfl); (case q15 => k_is); (case r15 => rfl); (case q16 => k_is); (case r16 => rfl); (case q17 => k_is); (case r17 => rfl); (case q18 => k_is); (case r18 => rfl); (case q19 => k_is); (case r19 => rfl); (case z1 => k_is); (case z2 => k_is); (case z3 => k_is); (case z4 => k_is); (case z5 => k_is); (case z6 => k_is); (case z7 => k_is); (case z8 => k_is); (case z9 => k_is); (case z10 => k_is); (case z11 => k_is); (case z12 => k_is); (case z13 => k_is); (case z14 => k_is); (case z15 => k_is)
